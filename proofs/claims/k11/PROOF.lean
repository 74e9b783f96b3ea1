import PyProof.Rows.All
import Wide.All
import OpenK.AllK
import Wide.FinOn
import HandS.ForMost
import HandS.ForExc
import HandS.IsInst
import HandS.Deep
import HandS.TupAny
import HandS.Iter
import HandS.ExcCtx
import HandS.ExcIs
import HandS.HotCalls
import HandS.ExcOwn
import HandS.TupMul
import HandS.TupLen
import HandS.NoneIn
import HandS.Style
import HandS.Conv
import KE.KDictDisplayH
import KE.SortData
import HandS.Defaults
import HandS.Head0
import HandS.Head1
import HandS.Head2
import HandS.HeadEnd
import HandS.HeadHook1
import HandS.HeadHook2
import HandS.TupSets
import HandS.SetFor
import KE.KRevSl
import HandS.Strs
import HandS.SetTxt0
import KE.DataMinMax
import PyProof.Rows.SetFrom
import KE.KDictPairs
import KE.DataCmp
import PyProof.Rows.StrFirst
import KE.KDictZip
import KE.GoesMore
import KE.GoesZip
import PySem.Challenge.RW_cellpatches_k11_whole_patches
set_option Elab.async false
set_option linter.all false
set_option autoImplicit false
set_option maxRecDepth 100000
set_option maxHeartbeats 0
/-! Val1: data, representation, environments, judgements. -/
namespace Vd
open L2 PyProof.Rows PySem PySem.Spec

abbrev Pd := PyData

/-- a field of an object: data, a list of the object's own, not told -/
inductive Fiel where
  | fr (d : Pd) | ls (ds : List Pd) | un
abbrev Fs := List (Str × Fiel)
/-- what an expression is worth; obj: an object that is only read -/
inductive W where
  | dat (d : Pd) | kdat (d : Pd) | dK (kvs : List (Key × Pd)) | dT (kvs : List (List Key × Pd)) | fn (x : Str) | obj (c : Str) (fs : Fs)

inductive R (α : Type) where
  | no | ex (c : Str) | ok (a : α)

def R.bind {α β : Type} (m : R α) (k : α → R β) : R β :=
  match m with
  | .no => .no
  | .ex c => .ex c
  | .ok a => k a
instance : Monad R where
  pure := R.ok
  bind := R.bind

def run {α : Type} (m : R α) (ok : α → Prop) (ex : Str → Prop) : Prop :=
  match m with
  | .no => False
  | .ex c => ex c
  | .ok a => ok a
theorem run_bind {α β : Type} {m : R α} {k : α → R β} {ok : β → Prop} {ex : Str → Prop} :
    run (m.bind k) ok ex ↔ run m (fun a => run (k a) ok ex) ex := by
  cases m <;> rfl
theorem run_mono {α : Type} {m : R α} {ok ok' : α → Prop} {ex ex' : Str → Prop} (h : run m ok ex) (h1 : ∀ a, m = .ok a → ok a → ok' a) (h2 : ∀ c, ex c → ex' c) : run m ok' ex' := by
  cases m with
  | no => exact h
  | ex c => exact h2 c h
  | ok a => exact h1 a rfl h

/-! ### heaps -/
def Sub (F H : Hp) : Prop := ∀ a o, F a = some o → H a = some o
theorem Sub.refl (F : Hp) : Sub F F := fun _ _ h => h
theorem Sub.trans {F G H : Hp} (a : Sub F G) (b : Sub G H) : Sub F H := fun c o h => b c o (a c o h)
theorem Sub.nn {F H : Hp} (s : Sub F H) {a : Addr} (h : H a = none) : F a = none := by
  cases e : F a with
  | none => rfl
  | some o => rw [s a o e] at h; cases h
theorem Sub.upd {F : Hp} {p : Addr} {o : HO} (h : F p = none) : Sub F (upd F p o) := fun a u e => by
  rw [upd_ne (ne_of_none e h)]; exact e
theorem Sub.upd2 {F H : Hp} (s : Sub F H) {p : Addr} {o : HO} : Sub (L2.upd F p o) (L2.upd H p o) := fun a u e => by
  by_cases h : a = p
  · subst h; rw [upd_same] at e ⊢; exact e
  · rw [upd_ne h] at e ⊢; exact s a u e
theorem Sub.updR {F H : Hp} (s : Sub F H) {p : Addr} {o : HO} (h : F p = none) : Sub F (L2.upd H p o) := fun a u e => by
  rw [upd_ne (ne_of_none e h)]; exact s a u e

/-- not there, or a tuple (which never changes) -/
def New (H : Hp) (a : Addr) : Prop := H a = none ∨ ∃ xs, H a = some (.tup xs)
def Ow (H : Hp) (a : Addr) : Prop := ∃ o, H a = some o ∧ ∀ xs, o ≠ .tup xs
theorem New.back {H H' : Hp} (s : Sub H H') {a : Addr} (h : New H' a) : New H a := by
  cases e : H a with
  | none => exact .inl e
  | some o =>
    have h2 := s a o e
    rcases h with h | ⟨xs, h⟩
    · rw [h2] at h; cases h
    · rw [h2] at h; cases h; exact .inr ⟨xs, e⟩
theorem Ow.not {H : Hp} {a : Addr} (h : Ow H a) : ¬ New H a := by
  obtain ⟨o, h1, h2⟩ := h
  rintro (q | ⟨xs, q⟩)
  · rw [h1] at q; cases q
  · rw [h1] at q; cases q; exact h2 xs rfl
theorem Ow.mono {H H' : Hp} (s : Sub H H') {a : Addr} (h : Ow H a) : Ow H' a := let ⟨o, h1, h2⟩ := h; ⟨o, s _ _ h1, h2⟩
theorem Ow.ne {H : Hp} {a : Addr} (h : Ow H a) : H a ≠ none := fun q => h.not (.inl q)
/-- the heap grows, and with it what is frozen -/
structure Ext (F H F' H' : Hp) : Prop where
  ff : Sub F F'
  hh : Sub H H'
  sub : Sub F' H'
  nw : ∀ a, F' a ≠ none → F a ≠ none ∨ New H a
theorem Ext.refl {F H : Hp} (s : Sub F H) : Ext F H F H := ⟨.refl _, .refl _, s, fun _ h => .inl h⟩
theorem Ext.trans {F H F1 H1 F2 H2 : Hp} (a : Ext F H F1 H1) (b : Ext F1 H1 F2 H2) : Ext F H F2 H2 :=
  ⟨a.ff.trans b.ff, a.hh.trans b.hh, b.sub, fun c h => by
    rcases b.nw c h with h | h
    · exact a.nw c h
    · exact .inr (h.back a.hh)⟩
theorem Ext.new {F H : Hp} (s : Sub F H) {p : Addr} {o : HO} (h : H p = none) : Ext F H (upd F p o) (upd H p o) :=
  ⟨.upd (s.nn h), .upd h, s.upd2, fun a e => by
    by_cases c : a = p
    · subst c; exact .inr (.inl h)
    · rw [upd_ne c] at e; exact .inl e⟩
/-- a new cell that is not frozen (yet) -/
theorem Ext.newO {F H : Hp} (s : Sub F H) {p : Addr} {o : HO} (h : H p = none) : Ext F H F (upd H p o) :=
  ⟨.refl _, .upd h, s.updR (s.nn h), fun _ e => .inl e⟩
/-- a cell is frozen that came after -/
theorem Ext.frz {F H F' H' : Hp} (e : Ext F H F' H') {p : Addr} {o : HO} (h : H p = none) (h' : H' p = some o) : Ext F H (upd F' p o) H' :=
  ⟨fun a u q => by
      have h1 := e.ff a u q
      by_cases c : a = p
      · subst c; rw [(e.ff.trans e.sub) a u q] at h'; cases h'; rw [upd_same]
      · rw [upd_ne c]; exact h1,
    e.hh, fun a u q => by
      by_cases c : a = p
      · subst c; rw [upd_same] at q; cases q; exact h'
      · rw [upd_ne c] at q; exact e.sub a u q,
    fun a q => by
      by_cases c : a = p
      · subst c; exact .inr (.inl h)
      · rw [upd_ne c] at q; exact e.nw a q⟩

/-! ### data -/
mutual
def Ds (F : Hp) : Pd → V → Prop
  | .none, v => v = .non
  | .bool b, v => v = .bl b
  | .int i, v => v = .int i
  | .str x, v => v = .str x
  | .list ds, v => ∃ a xs, v = .ref a ∧ F a = some (.lst xs) ∧ DsL F ds xs
  | .tuple ds, v => ∃ a xs, v = .ref a ∧ F a = some (.tup xs) ∧ DsL F ds xs
  | .dict _, _ => False
def DsL (F : Hp) : List Pd → List V → Prop
  | [], xs => xs = []
  | d :: ds, xs => ∃ x r, xs = x :: r ∧ Ds F d x ∧ DsL F ds r
end
mutual
theorem Ds.mono {F G : Hp} (s : Sub F G) : ∀ (d : Pd) (v : V), Ds F d v → Ds G d v
  | .none, _, h => h
  | .bool _, _, h => h
  | .int _, _, h => h
  | .str _, _, h => h
  | .list ds, _, ⟨a, xs, e, h, r⟩ => ⟨a, xs, e, s _ _ h, DsL.mono s ds xs r⟩
  | .tuple ds, _, ⟨a, xs, e, h, r⟩ => ⟨a, xs, e, s _ _ h, DsL.mono s ds xs r⟩
  | .dict _, _, h => h
theorem DsL.mono {F G : Hp} (s : Sub F G) : ∀ (ds : List Pd) (xs : List V), DsL F ds xs → DsL G ds xs
  | [], _, h => h
  | d :: ds, _, ⟨x, r, e, h, t⟩ => ⟨x, r, e, Ds.mono s d x h, DsL.mono s ds r t⟩
end
mutual
theorem Ds.dp {K : PySem.W.Frag} {F : Hp} : ∀ (d : Pd) (v : V), Ds F d v → Dp K F v d
  | .none, _, h => by cases h; exact .non
  | .bool _, _, h => by cases h; exact .bl _
  | .int _, _, h => by cases h; exact .int _
  | .str _, _, h => by cases h; exact .str _
  | .list ds, _, ⟨a, xs, e, h, r⟩ => by subst e; exact .lst (.of h) (DsL.dp ds xs r)
  | .tuple ds, _, ⟨a, xs, e, h, r⟩ => by subst e; exact .tup (.of h) (DsL.dp ds xs r)
  | .dict _, _, h => h.elim
theorem DsL.dp {K : PySem.W.Frag} {F : Hp} : ∀ (ds : List Pd) (xs : List V), DsL F ds xs → DpAll K F xs ds
  | [], _, h => by cases h; exact .nil
  | d :: ds, _, ⟨x, r, e, h, t⟩ => by subst e; exact .cons (Ds.dp d x h) (DsL.dp ds r t)
end
theorem DsL.len {F : Hp} : ∀ {ds : List Pd} {xs : List V}, DsL F ds xs → xs.length = ds.length
  | [], _, h => by cases h; rfl
  | _ :: ds, _, ⟨x, r, e, _, t⟩ => by subst e; simp [DsL.len t]
theorem DsL.get {F : Hp} : ∀ {ds : List Pd} {xs : List V} {i : Nat} {d : Pd}, DsL F ds xs → ds[i]? = some d → ∃ x, xs[i]? = some x ∧ Ds F d x
  | [], _, _, _, _, e => by simp at e
  | d :: ds, _, 0, d', ⟨x, r, e, h, _⟩, q => by subst e; simp at q; subst q; exact ⟨x, rfl, h⟩
  | d :: ds, _, i + 1, d', ⟨x, r, e, _, t⟩, q => by subst e; simp at q; simpa using DsL.get t q
theorem DsL.app {F : Hp} : ∀ {ds es : List Pd} {xs ys : List V}, DsL F ds xs → DsL F es ys → DsL F (ds ++ es) (xs ++ ys)
  | [], _, _, _, h, q => by cases h; exact q
  | d :: ds, _, _, _, ⟨x, r, e, h, t⟩, q => by subst e; exact ⟨x, r ++ _, rfl, h, DsL.app t q⟩
theorem DsL.one {F : Hp} {d : Pd} {x : V} (h : Ds F d x) : DsL F [d] [x] := ⟨x, [], rfl, h, rfl⟩
theorem DsL.drop {F : Hp} : ∀ {ds : List Pd} {xs : List V} (n : Nat), DsL F ds xs → DsL F (ds.drop n) (xs.drop n)
  | _, _, 0, h => h
  | [], _, n + 1, h => by cases h; rfl
  | d :: ds, _, n + 1, ⟨x, r, e, _, t⟩ => by subst e; exact DsL.drop n t
theorem DsL.take {F : Hp} : ∀ {ds : List Pd} {xs : List V} (n : Nat), DsL F ds xs → DsL F (ds.take n) (xs.take n)
  | _, _, 0, h => rfl
  | [], _, n + 1, h => by cases h; rfl
  | d :: ds, _, n + 1, ⟨x, r, e, h, t⟩ => by subst e; exact ⟨x, r.take n, rfl, h, DsL.take n t⟩
theorem DsL.set {F : Hp} {d : Pd} {x : V} (h : Ds F d x) : ∀ {ds : List Pd} {xs : List V} (i : Nat), DsL F ds xs → DsL F (ds.set i d) (xs.set i x)
  | [], _, _, q => by cases q; rfl
  | _ :: ds, _, 0, ⟨y, r, e, _, t⟩ => by subst e; exact ⟨x, r, rfl, h, t⟩
  | _ :: ds, _, i + 1, ⟨y, r, e, g, t⟩ => by subst e; exact ⟨y, r.set i x, rfl, g, DsL.set h i t⟩
theorem DsL.rev {F : Hp} : ∀ {ds : List Pd} {xs : List V}, DsL F ds xs → DsL F ds.reverse xs.reverse
  | [], _, h => by cases h; rfl
  | d :: ds, _, ⟨x, r, e, h, t⟩ => by subst e; rw [List.reverse_cons, List.reverse_cons]; exact DsL.app (DsL.rev t) (DsL.one h)
/-- data of one plain kind -/
theorem DsL.map {F : Hp} {α : Type} {f : α → Pd} {g : α → V} (h : ∀ a v, Ds F (f a) v ↔ v = g a) : ∀ {l : List α} {xs : List V}, DsL F (l.map f) xs ↔ xs = l.map g
  | [], _ => Iff.rfl
  | a :: l, xs => by
    constructor
    · rintro ⟨x, r, e, q, t⟩
      subst e
      rw [(h _ _).mp q, (DsL.map h).mp t]; rfl
    · rintro rfl
      exact ⟨g a, l.map g, rfl, (h _ _).mpr rfl, (DsL.map h).mpr rfl⟩

/-! ### dicts -/
section
variable {κ : Type} [DecidableEq κ] {α : Type}
def lk (kvs : List (κ × α)) (k : κ) : Option α := (kvs.find? fun kv => decide (kv.1 = k)).map (·.2)
def pt (kvs : List (κ × α)) (k : κ) (v : α) : List (κ × α) :=
  if (kvs.any fun kv => decide (kv.1 = k)) = true then kvs.map (fun kv => if kv.1 = k then (kv.1, v) else kv) else kvs ++ [(k, v)]
end
def KvP {κ : Type} (F : Hp) (kvs : List (κ × Pd)) (ks : List (κ × V)) : Prop := ks.map (·.1) = kvs.map (·.1) ∧ DsL F (kvs.map (·.2)) (ks.map (·.2))
section
variable {κ : Type} [DecidableEq κ] {F G : Hp}
theorem KvP.mono (s : Sub F G) {kvs : List (κ × Pd)} {ks : List (κ × V)} (h : KvP F kvs ks) : KvP G kvs ks := ⟨h.1, h.2.mono s⟩
theorem KvP.nil : KvP F ([] : List (κ × Pd)) [] := ⟨rfl, rfl⟩
theorem KvP.len {kvs : List (κ × Pd)} {ks : List (κ × V)} (h : KvP F kvs ks) : ks.length = kvs.length := by
  have := congrArg List.length h.1; simpa using this
theorem KvP.cons_inv {p : κ × Pd} {kvs : List (κ × Pd)} {ks : List (κ × V)} (h : KvP F (p :: kvs) ks) : ∃ v r, ks = (p.1, v) :: r ∧ Ds F p.2 v ∧ KvP F kvs r := by
  obtain ⟨h1, x, r, e, h2, h3⟩ := h
  cases ks with
  | nil => simp at h1
  | cons q t =>
    simp only [List.map_cons, List.cons.injEq] at h1 e
    refine ⟨q.2, t, ?_, by rw [e.1]; exact h2, h1.2, by rw [e.2]; exact h3⟩
    rw [← h1.1]
theorem KvP.cons {k : κ} {d : Pd} {v : V} {kvs : List (κ × Pd)} {ks : List (κ × V)} (h : Ds F d v) (t : KvP F kvs ks) : KvP F ((k, d) :: kvs) ((k, v) :: ks) :=
  ⟨by simp [t.1], v, ks.map (·.2), rfl, h, t.2⟩
theorem KvP.look (k : κ) : ∀ {kvs : List (κ × Pd)} {ks : List (κ × V)}, KvP F kvs ks → (lk kvs k = none → valV ks k = none) ∧ ∀ d, lk kvs k = some d → ∃ v, valV ks k = some v ∧ Ds F d v
  | [], ks, h => by
    have : ks = [] := by have := h.len; simpa using this
    subst this
    exact ⟨fun _ => rfl, fun d e => nomatch e⟩
  | p :: kvs, ks, h => by
    obtain ⟨v, r, rfl, hd, t⟩ := h.cons_inv
    by_cases e : p.1 = k
    · rw [valV_pos (p := (p.1, v)) e]
      have : lk (p :: kvs) k = some p.2 := by simp [lk, List.find?_cons, e]
      rw [this]
      exact ⟨fun q => (nomatch q), fun d q => (Option.some.inj q) ▸ ⟨v, rfl, hd⟩⟩
    · rw [valV_neg (p := (p.1, v)) e]
      have : lk (p :: kvs) k = lk kvs k := by simp [lk, List.find?_cons, e]
      rw [this]
      exact KvP.look k t
theorem KvP.any (k : κ) {kvs : List (κ × Pd)} {ks : List (κ × V)} (h : KvP F kvs ks) : (ks.any fun kv => decide (kv.1 = k)) = kvs.any fun kv => decide (kv.1 = k) := by
  have e1 : (ks.any fun kv => decide (kv.1 = k)) = (ks.map (·.1)).any fun x => decide (x = k) := by rw [List.any_map]; rfl
  have e2 : (kvs.any fun kv => decide (kv.1 = k)) = (kvs.map (·.1)).any fun x => decide (x = k) := by rw [List.any_map]; rfl
  rw [e1, e2, h.1]
theorem KvP.app {kvs ls : List (κ × Pd)} {ks ms : List (κ × V)} (h : KvP F kvs ks) (h' : KvP F ls ms) : KvP F (kvs ++ ls) (ks ++ ms) :=
  ⟨by simp [h.1, h'.1], by simp only [List.map_append]; exact h.2.app h'.2⟩
theorem KvP.upd {k : κ} {d : Pd} {v : V} (hd : Ds F d v) : ∀ {kvs : List (κ × Pd)} {ks : List (κ × V)}, KvP F kvs ks →
    KvP F (kvs.map fun kv => if kv.1 = k then (kv.1, d) else kv) (ks.map fun kv => if kv.1 = k then (kv.1, v) else kv)
  | [], ks, h => by
    have : ks = [] := by have := h.len; simpa using this
    subst this; exact .nil
  | p :: kvs, ks, h => by
    obtain ⟨x, r, rfl, hx, t⟩ := h.cons_inv
    have ih := KvP.upd (k := k) hd t
    by_cases e : p.1 = k
    · simp only [List.map_cons, e, if_true]; exact .cons hd ih
    · simp only [List.map_cons, e, if_false]; exact .cons hx ih
theorem KvP.put {k : κ} {d : Pd} {v : V} (hd : Ds F d v) {kvs : List (κ × Pd)} {ks : List (κ × V)} (h : KvP F kvs ks) : KvP F (pt kvs k d) (putK ks k v) := by
  unfold pt putK
  rw [h.any k]
  split
  · exact h.upd hd
  · exact h.app (.cons hd .nil)
end

/-! ### values -/
/-- the name of an exception that is held, at an address -/
def excS (a : Addr) : Str := ⟨#[0, a]⟩
def isExc (x : Str) : Bool := x.cps[0]? == some 0
theorem isExc_S (a : Addr) : isExc (excS a) = true := rfl
theorem excS_inj {a b : Addr} (h : excS a = excS b) : a = b := by
  have h1 : (excS a).cps[1]? = (excS b).cps[1]? := by rw [h]
  have h2 : some a = some b := h1
  exact Option.some.inj h2
/-- fields of an object that is only read -/
def FdR (F : Hp) : Fiel → V → Prop
  | .fr d, v => Ds F d v
  | .ls ds, v => ∃ b xs, v = .ref b ∧ F b = some (.lst xs) ∧ DsL F ds xs
  | .un, _ => True
def FzR (F : Hp) : Fs → List (Str × V) → Prop
  | [], vs => vs = []
  | (x, f) :: fs, vs => ∃ v r, vs = (x, v) :: r ∧ FdR F f v ∧ FzR F fs r
theorem FdR.mono {F G : Hp} (s : Sub F G) {f : Fiel} {v : V} (h : FdR F f v) : FdR G f v := by
  cases f with
  | fr d => exact Ds.mono s d v h
  | ls ds => obtain ⟨b, xs, e, h1, h2⟩ := h; exact ⟨b, xs, e, s _ _ h1, h2.mono s⟩
  | un => trivial
theorem FzR.mono {F G : Hp} (s : Sub F G) : ∀ {fs : Fs} {vs : List (Str × V)}, FzR F fs vs → FzR G fs vs
  | [], _, h => h
  | (_, _) :: _, _, ⟨v, r, e, h1, h2⟩ => ⟨v, r, e, h1.mono s, FzR.mono s h2⟩
section
variable (K : PySem.W.Frag) (mg : Str → Option Value)
def RpW (F : Hp) : W → V → Prop
  | .dat d, v => Ds F d v
  | .kdat d, v => Dp K F v d
  | .dK kvs, v => ∃ a u ks, v = .ref a ∧ F a = some (.frz u (.dK ks)) ∧ KvP F kvs ks
  | .dT kvs, v => ∃ a u ks, v = .ref a ∧ F a = some (.frz u (.dT ks)) ∧ KvP F kvs ks
  | .fn x, v => ∃ f, (if isExc x = true then x = excS f else mg x = some (.ref f)) ∧ v = .ref f
  | .obj c fs, v => ∃ a C dx vs, v = .ref a ∧ mg c = some (.ref C) ∧ F a = some (.ins C dx vs) ∧ FzR F fs vs
/-- borrowed: the top may be owned -/
def RB (F H : Hp) : W → V → Prop
  | .dat (.list ds), v => ∃ a xs, v = .ref a ∧ H a = some (.lst xs) ∧ DsL F ds xs
  | .dat d, v => Ds F d v
  | .kdat d, v => Dp K F v d
  | .dK kvs, v => ∃ a ks, v = .ref a ∧ Rd H a (.dK ks) ∧ KvP F kvs ks
  | .dT kvs, v => ∃ a ks, v = .ref a ∧ Rd H a (.dT ks) ∧ KvP F kvs ks
  | .fn x, v => ∃ f, (if isExc x = true then x = excS f else mg x = some (.ref f)) ∧ v = .ref f
  | .obj c fs, v => ∃ a C dx vs, v = .ref a ∧ mg c = some (.ref C) ∧ F a = some (.ins C dx vs) ∧ FzR F fs vs
end
mutual
theorem Dp.mono {K : PySem.W.Frag} {F G : Hp} (s : Sub F G) : ∀ (d : Pd) (v : V), Dp K F v d → Dp K G v d
  | .none, _, h => by cases h; exact .non
  | .bool _, _, h => by cases h; exact .bl _
  | .int _, _, h => by cases h; exact .int _
  | .str _, _, h => by cases h; exact .str _
  | .list ds, _, h => by cases h with | lst hs ha => exact .lst (L2.Same.seq s hs) (DpL.mono s ds _ ha)
  | .tuple ds, _, h => by
    cases h with
    | @tup a xs ds hs ha =>
      refine .tup ?_ (DpL.mono s ds _ ha)
      rcases hs with hs | hs
      · rcases hs with hs | ⟨o, hs⟩
        · exact .inl (.inl (s _ _ hs))
        · exact .inl (.inr ⟨o, s _ _ hs⟩)
      · exact .inr hs
  | .dict _, _, h => by cases h
theorem DpL.mono {K : PySem.W.Frag} {F G : Hp} (s : Sub F G) : ∀ (ds : List Pd) (xs : List V), DpAll K F xs ds → DpAll K G xs ds
  | [], _, h => by cases h; exact .nil
  | d :: ds, _, h => by cases h with | cons h1 h2 => exact .cons (Dp.mono s d _ h1) (DpL.mono s ds _ h2)
end
theorem rdM {F G : Hp} (s : Sub F G) {a : Addr} {o : HO} (h : Rd F a o) : Rd G a o := by
  rcases h with h | ⟨u, h⟩
  · exact .inl (s _ _ h)
  · exact .inr ⟨u, s _ _ h⟩
section
variable {K : PySem.W.Frag} {mg : Str → Option Value} {F G H H' : Hp}
theorem RpW.mono (s : Sub F G) {w : W} {v : V} (h : RpW K mg F w v) : RpW K mg G w v := by
  cases w with
  | dat d => exact Ds.mono s d v h
  | kdat d => exact Dp.mono s d v h
  | dK kvs => obtain ⟨a, u, ks, e, h1, h2⟩ := h; exact ⟨a, u, ks, e, s _ _ h1, h2.mono s⟩
  | dT kvs => obtain ⟨a, u, ks, e, h1, h2⟩ := h; exact ⟨a, u, ks, e, s _ _ h1, h2.mono s⟩
  | fn x => exact h
  | obj c fs => obtain ⟨a, C, dx, vs, e, h1, h2, h3⟩ := h; exact ⟨a, C, dx, vs, e, h1, s _ _ h2, h3.mono s⟩
theorem RB.mono (s : Sub F G) (t : Sub H H') {w : W} {v : V} (h : RB K mg F H w v) : RB K mg G H' w v := by
  cases w with
  | dat d =>
    cases d with
    | list ds => obtain ⟨a, xs, e, h1, h2⟩ := h; exact ⟨a, xs, e, t _ _ h1, h2.mono s⟩
    | none => exact h
    | bool b => exact h
    | int i => exact h
    | str x => exact h
    | tuple ds => exact Ds.mono s _ _ h
    | dict _ => exact h
  | kdat d => exact Dp.mono s d v h
  | dK kvs => obtain ⟨a, ks, e, h1, h2⟩ := h; exact ⟨a, ks, e, rdM t h1, h2.mono s⟩
  | dT kvs => obtain ⟨a, ks, e, h1, h2⟩ := h; exact ⟨a, ks, e, rdM t h1, h2.mono s⟩
  | fn x => exact h
  | obj c fs => obtain ⟨a, C, dx, vs, e, h1, h2, h3⟩ := h; exact ⟨a, C, dx, vs, e, h1, s _ _ h2, h3.mono s⟩
theorem RpW.rb (s : Sub F H) {w : W} {v : V} (h : RpW K mg F w v) : RB K mg F H w v := by
  cases w with
  | dat d =>
    cases d with
    | list ds => obtain ⟨a, xs, e, h1, h2⟩ := h; exact ⟨a, xs, e, s _ _ h1, h2⟩
    | none => exact h
    | bool b => exact h
    | int i => exact h
    | str x => exact h
    | tuple ds => exact h
    | dict _ => exact h
  | kdat d => exact h
  | dK kvs => obtain ⟨a, u, ks, e, h1, h2⟩ := h; exact ⟨a, ks, e, .inr ⟨u, s _ _ h1⟩, h2⟩
  | dT kvs => obtain ⟨a, u, ks, e, h1, h2⟩ := h; exact ⟨a, ks, e, .inr ⟨u, s _ _ h1⟩, h2⟩
  | fn x => exact h
  | obj c fs => exact h
end
def RpL (K : PySem.W.Frag) (mg : Str → Option Value) (F : Hp) : List W → List V → Prop
  | [], vs => vs = []
  | w :: ws, vs => ∃ v r, vs = v :: r ∧ RpW K mg F w v ∧ RpL K mg F ws r
def RBL (K : PySem.W.Frag) (mg : Str → Option Value) (F H : Hp) : List W → List V → Prop
  | [], vs => vs = []
  | w :: ws, vs => ∃ v r, vs = v :: r ∧ RB K mg F H w v ∧ RBL K mg F H ws r
theorem RpL.mono {K : PySem.W.Frag} {mg : Str → Option Value} {F G : Hp} (s : Sub F G) : ∀ {ws : List W} {vs : List V}, RpL K mg F ws vs → RpL K mg G ws vs
  | [], _, h => h
  | _ :: _, _, ⟨v, r, e, h, t⟩ => ⟨v, r, e, h.mono s, RpL.mono s t⟩
theorem RpL.len {K : PySem.W.Frag} {mg : Str → Option Value} {F : Hp} : ∀ {ws : List W} {vs : List V}, RpL K mg F ws vs → vs.length = ws.length
  | [], _, h => by cases h; rfl
  | _ :: _, _, ⟨v, r, e, _, t⟩ => by subst e; simp [RpL.len t]
theorem RpL.get {K : PySem.W.Frag} {mg : Str → Option Value} {F : Hp} : ∀ {ws : List W} {vs : List V} {i : Nat} {w : W}, RpL K mg F ws vs → ws[i]? = some w → ∃ v, vs[i]? = some v ∧ RpW K mg F w v
  | [], _, _, _, _, e => by simp at e
  | d :: ds, _, 0, d', ⟨x, r, e, h, _⟩, q => by subst e; simp at q; subst q; exact ⟨x, rfl, h⟩
  | d :: ds, _, i + 1, d', ⟨x, r, e, _, t⟩, q => by subst e; simp at q; simpa using RpL.get t q

/-! ### environments -/
inductive OT where
  | L (ds : List Pd) | dK (kvs : List (Key × Pd)) | dT (kvs : List (List Key × Pd)) | LL (dss : List (List Pd))
inductive Sl where
  | un | fz (w : W) | ow (t : OT) | ob (a : Addr) (c : Str) (fs : Fs)
abbrev Rho := List Sl
def LLR (F H : Hp) : List (List Pd) → List Addr → Prop
  | [], bs => bs = []
  | ds :: dss, bs => ∃ b r xs, bs = b :: r ∧ H b = some (.lst xs) ∧ DsL F ds xs ∧ LLR F H dss r
def OtR (F H : Hp) (a : Addr) (fp : List Addr) : OT → Prop
  | .L ds => fp = [a] ∧ ∃ xs, H a = some (.lst xs) ∧ DsL F ds xs
  | .dK kvs => fp = [a] ∧ ∃ ks, H a = some (.dK ks) ∧ KvP F kvs ks
  | .dT kvs => fp = [a] ∧ ∃ ks, H a = some (.dT ks) ∧ KvP F kvs ks
  | .LL dss => ∃ bs : List Addr, fp = a :: bs ∧ (a :: bs).Nodup ∧ H a = some (.lst (bs.map V.ref)) ∧ LLR F H dss bs
/-- fields of an object of one's own; bs: where its own lists stand -/
def FoR (F H : Hp) : Fs → List (Str × V) → List Addr → Prop
  | [], vs, bs => vs = [] ∧ bs = []
  | (x, .fr d) :: fs, vs, bs => ∃ v r, vs = (x, v) :: r ∧ Ds F d v ∧ FoR F H fs r bs
  | (x, .ls ds) :: fs, vs, bs => ∃ b r cs xs, vs = (x, .ref b) :: r ∧ bs = b :: cs ∧ H b = some (.lst xs) ∧ DsL F ds xs ∧ FoR F H fs r cs
  | (x, .un) :: fs, vs, bs => ∃ v r, vs = (x, v) :: r ∧ FoR F H fs r bs
theorem FoR.same {F G H H' : Hp} (s : Sub F G) : ∀ {fs : Fs} {vs : List (Str × V)} {bs : List Addr}, (∀ b ∈ bs, H' b = H b) → FoR F H fs vs bs → FoR G H' fs vs bs
  | [], _, _, _, h => h
  | (_, .fr _) :: _, _, _, g, ⟨v, r, e, h1, h2⟩ => ⟨v, r, e, Ds.mono s _ _ h1, FoR.same s g h2⟩
  | (_, .ls _) :: _, _, _, g, ⟨b, r, cs, xs, e, e2, h1, h2, h3⟩ => by
    subst e2
    exact ⟨b, r, cs, xs, e, rfl, by rw [g b (by simp)]; exact h1, h2.mono s, FoR.same s (fun c hc => g c (List.mem_cons_of_mem _ hc)) h3⟩
  | (_, .un) :: _, _, _, g, ⟨v, r, e, h2⟩ => ⟨v, r, e, FoR.same s g h2⟩
theorem FoR.there {F H : Hp} : ∀ {fs : Fs} {vs : List (Str × V)} {bs : List Addr}, FoR F H fs vs bs → ∀ b ∈ bs, ∃ xs, H b = some (.lst xs)
  | [], _, _, h, b, hb => by rw [h.2] at hb; cases hb
  | (_, .fr _) :: _, _, _, ⟨v, r, e, h1, h2⟩, b, hb => FoR.there h2 b hb
  | (_, .ls _) :: _, _, _, ⟨b', r, cs, xs, e, e2, h1, h2, h3⟩, b, hb => by
    subst e2
    rcases List.mem_cons.mp hb with rfl | hb
    · exact ⟨xs, h1⟩
    · exact FoR.there h3 b hb
  | (_, .un) :: _, _, _, ⟨v, r, e, h2⟩, b, hb => FoR.there h2 b hb
def SlR (K : PySem.W.Frag) (mg : Str → Option Value) (F H : Hp) (fp : List Addr) (o : Option (Option V)) : Sl → Prop
  | .un => fp = []
  | .fz w => fp = [] ∧ ∃ v, o = some (some v) ∧ RpW K mg F w v
  | .ow t => ∃ a, o = some (some (.ref a)) ∧ OtR F H a fp t
  | .ob a c fs => ∃ C dx vs bs, o = some (some (.ref a)) ∧ mg c = some (.ref C) ∧ fp = a :: bs ∧ (a :: bs).Nodup ∧ H a = some (.ins C dx vs) ∧ FoR F H fs vs bs
structure Bs where
  F0 : Hp
  H0 : Hp
  n : Nat
structure EnvOk (K : PySem.W.Frag) (mg : Str → Option Value) (B : Bs) (ρ : Rho) (F : Hp) (σ : L2.St) (H : Hp) : Prop where
  sub : Sub F H
  f0 : Sub B.F0 F
  h0 : Sub B.H0 H
  nw : ∀ a, F a ≠ none → B.F0 a ≠ none ∨ New B.H0 a
  len : σ.length = ρ.length
  lenB : ρ.length = B.n
  fp : ∃ fp : Nat → List Addr, (∀ i, SlR K mg F H (fp i) σ[i]? (ρ.getD i .un)) ∧ (∀ i, ∀ a ∈ fp i, F a = none ∧ B.H0 a = none ∧ Ow H a) ∧ ∀ i j a, a ∈ fp i → a ∈ fp j → i = j
theorem LLR.mono {F G H H' : Hp} (s : Sub F G) (t : Sub H H') : ∀ {dss : List (List Pd)} {bs : List Addr}, LLR F H dss bs → LLR G H' dss bs
  | [], _, h => h
  | _ :: _, _, ⟨b, r, xs, e, h1, h2, h3⟩ => ⟨b, r, xs, e, t _ _ h1, h2.mono s, LLR.mono s t h3⟩
theorem OtR.mono {F G H H' : Hp} (s : Sub F G) (t : Sub H H') {a : Addr} {fp : List Addr} {o : OT} (h : OtR F H a fp o) : OtR G H' a fp o := by
  cases o with
  | L ds => obtain ⟨e, xs, h1, h2⟩ := h; exact ⟨e, xs, t _ _ h1, h2.mono s⟩
  | dK ds => obtain ⟨e, xs, h1, h2⟩ := h; exact ⟨e, xs, t _ _ h1, h2.mono s⟩
  | dT ds => obtain ⟨e, xs, h1, h2⟩ := h; exact ⟨e, xs, t _ _ h1, h2.mono s⟩
  | LL dss => obtain ⟨bs, e, n, h1, h2⟩ := h; exact ⟨bs, e, n, t _ _ h1, h2.mono s t⟩
section
variable {K : PySem.W.Frag} {mg : Str → Option Value} {B : Bs} {ρ : Rho} {F F' H H' : Hp} {σ : L2.St}
theorem SlR.mono (s : Sub F F') (t : Sub H H') {fp : List Addr} {o : Option (Option V)} {l : Sl} (h : SlR K mg F H fp o l) : SlR K mg F' H' fp o l := by
  cases l with
  | un => exact h
  | fz w => obtain ⟨e, v, h1, h2⟩ := h; exact ⟨e, v, h1, h2.mono s⟩
  | ow o => obtain ⟨a, h1, h2⟩ := h; exact ⟨a, h1, h2.mono s t⟩
  | ob a c fs =>
    obtain ⟨C, dx, vs, bs, h1, h2, h3, h4, h5, h6⟩ := h
    refine ⟨C, dx, vs, bs, h1, h2, h3, h4, t _ _ h5, h6.same s fun b hb => ?_⟩
    obtain ⟨xs, e⟩ := h6.there b hb
    rw [e, t _ _ e]
theorem EnvOk.ext (k : EnvOk K mg B ρ F σ H) (e : Ext F H F' H') : EnvOk K mg B ρ F' σ H' := by
  obtain ⟨fp, h1, h2, h3⟩ := k.fp
  refine ⟨e.sub, k.f0.trans e.ff, k.h0.trans e.hh, fun a q => ?_, k.len, k.lenB, fp, fun i => (h1 i).mono e.ff e.hh, fun i a ha => ?_, h3⟩
  · rcases e.nw a q with q | q
    · exact k.nw a q
    · exact .inr (q.back k.h0)
  · obtain ⟨q1, q2, q3⟩ := h2 i a ha
    refine ⟨?_, q2, q3.mono e.hh⟩
    cases z : F' a with
    | none => rfl
    | some o =>
      rcases e.nw a (by rw [z]; exact fun c => nomatch c) with y | y
      · exact absurd q1 y
      · exact absurd y q3.not
/-- behind the whole: for whoever called -/
theorem EnvOk.fin (k : EnvOk K mg B ρ F σ H) : Ext B.F0 B.H0 F H := ⟨k.f0, k.h0, k.sub, k.nw⟩
theorem EnvOk.get (k : EnvOk K mg B ρ F σ H) {i : Nat} {w : W} (e : ρ[i]? = some (.fz w)) : ∃ v, σ[i]? = some (some v) ∧ RpW K mg F w v := by
  obtain ⟨fp, h1, _⟩ := k.fp
  have h := h1 i
  rw [List.getD_eq_getElem?_getD, e] at h
  exact h.2
theorem getD_set {ρ : Rho} {i j : Nat} {s : Sl} (h : i < ρ.length) : (ρ.set i s).getD j .un = if j = i then s else ρ.getD j .un := by
  rw [List.getD_eq_getElem?_getD, List.getD_eq_getElem?_getD]
  by_cases e : j = i
  · subst e; rw [if_pos rfl, List.getElem?_set_self h]; rfl
  · rw [if_neg e, List.getElem?_set_ne (Ne.symm e)]
/-- a slot is stored with a frozen value -/
theorem EnvOk.setF (k : EnvOk K mg B ρ F σ H) {i : Nat} {w : W} {v : V} (hi : i < ρ.length) (r : RpW K mg F w v) : EnvOk K mg B (ρ.set i (.fz w)) F (σ.set i (some v)) H := by
  obtain ⟨fp, h1, h2, h3⟩ := k.fp
  refine ⟨k.sub, k.f0, k.h0, k.nw, by simpa using k.len, by simpa using k.lenB, fun j => if j = i then [] else fp j, fun j => ?_, fun j a ha => ?_, fun j l a ha hb => ?_⟩
  · show SlR K mg F H (if j = i then [] else fp j) _ _
    rw [getD_set hi]
    by_cases e : j = i
    · subst e
      rw [if_pos rfl, if_pos rfl]
      exact ⟨rfl, v, List.getElem?_set_self (by rw [k.len]; exact hi), r⟩
    · rw [if_neg e, if_neg e, List.getElem?_set_ne (Ne.symm e)]
      exact h1 j
  · have ha : a ∈ (if j = i then [] else fp j) := ha
    by_cases e : j = i
    · rw [if_pos e] at ha; cases ha
    · rw [if_neg e] at ha; exact h2 j a ha
  · have ha : a ∈ (if j = i then [] else fp j) := ha
    have hb : a ∈ (if l = i then [] else fp l) := hb
    by_cases e : j = i
    · rw [if_pos e] at ha; cases ha
    · by_cases e' : l = i
      · rw [if_pos e'] at hb; cases hb
      · rw [if_neg e] at ha; rw [if_neg e'] at hb; exact h3 j l a ha hb
/-- forgetting slots -/
theorem EnvOk.kill (k : EnvOk K mg B ρ F σ H) {ρ' : Rho} (hl : ρ'.length = ρ.length) (h : ∀ j, ρ'.getD j .un = ρ.getD j .un ∨ ρ'.getD j .un = .un) : EnvOk K mg B ρ' F σ H := by
  obtain ⟨fp, h1, h2, h3⟩ := k.fp
  have h : ∀ j, ρ'.getD j .un = .un ∨ ρ'.getD j .un = ρ.getD j .un := fun j => (h j).symm
  have cl : ∀ j, Decidable (ρ'.getD j .un = .un) := fun j => by
    cases ρ'.getD j .un with
    | un => exact .isTrue rfl
    | fz w => exact .isFalse (fun q => nomatch q)
    | ow t => exact .isFalse (fun q => nomatch q)
    | ob a c fs => exact .isFalse (fun q => nomatch q)
  refine ⟨k.sub, k.f0, k.h0, k.nw, by rw [hl]; exact k.len, hl.trans k.lenB, fun j => @ite _ (ρ'.getD j .un = .un) (cl j) [] (fp j), fun j => ?_, fun j a ha => ?_, fun j l a ha hb => ?_⟩
  · show SlR K mg F H (@ite _ (ρ'.getD j .un = .un) (cl j) [] (fp j)) σ[j]? (ρ'.getD j .un)
    by_cases e : ρ'.getD j .un = .un
    · rw [if_pos e, e]; rfl
    · rw [if_neg e]
      rcases h j with q | q
      · exact absurd q e
      · rw [q]; exact h1 j
  · have ha : a ∈ @ite _ (ρ'.getD j .un = .un) (cl j) [] (fp j) := ha
    by_cases e : ρ'.getD j .un = .un
    · rw [if_pos e] at ha; cases ha
    · rw [if_neg e] at ha; exact h2 j a ha
  · have ha : a ∈ @ite _ (ρ'.getD j .un = .un) (cl j) [] (fp j) := ha
    have hb : a ∈ @ite _ (ρ'.getD l .un = .un) (cl l) [] (fp l) := hb
    by_cases e : ρ'.getD j .un = .un
    · rw [if_pos e] at ha; cases ha
    · by_cases e' : ρ'.getD l .un = .un
      · rw [if_pos e'] at hb; cases hb
      · rw [if_neg e] at ha; rw [if_neg e'] at hb; exact h3 j l a ha hb
end
end Vd

/-! Val2: judgements, expressions. -/
namespace Vd
open L2 PyProof.Rows PySem PySem.Spec

/-! ### judgements -/
def tE (X : Cx) (U : WX) (f : Rho → R W) : TE := fun σ H Q => ∃ B ρ F, EnvOk X.K X.mg B ρ F σ H ∧
  run (f ρ) (fun w => ∀ v F' H', Ext F H F' H' → RpW X.K X.mg F' w v → Q v H') (fun c => ∀ C H', X.mg c = some (.ref C) → Sub H H' → U (.ref C) none σ H')
def tB (X : Cx) (U : WX) (f : Rho → R W) : TE := fun σ H Q => ∃ B ρ F, EnvOk X.K X.mg B ρ F σ H ∧
  run (f ρ) (fun w => ∀ v F' H', Ext F H F' H' → RB X.K X.mg F' H' w v → Q v H') (fun c => ∀ C H', X.mg c = some (.ref C) → Sub H H' → U (.ref C) none σ H')
def tT (X : Cx) (U : WX) (f : Rho → R Bool) : TT := fun σ H Q => ∃ B ρ F, EnvOk X.K X.mg B ρ F σ H ∧
  run (f ρ) (fun b => ∀ F' H', Ext F H F' H' → Q b H') (fun c => ∀ C H', X.mg c = some (.ref C) → Sub H H' → U (.ref C) none σ H')
def tAF (X : Cx) (U : WX) (f : Rho → R (List W)) : TA := fun σ H Q => ∃ B ρ F, EnvOk X.K X.mg B ρ F σ H ∧
  run (f ρ) (fun ws => ∀ vs F' H', Ext F H F' H' → RpL X.K X.mg F' ws vs → Q vs H') (fun c => ∀ C H', X.mg c = some (.ref C) → Sub H H' → U (.ref C) none σ H')
def tAB (X : Cx) (U : WX) (f : Rho → R (List W)) : TA := fun σ H Q => ∃ B ρ F, EnvOk X.K X.mg B ρ F σ H ∧
  run (f ρ) (fun ws => ∀ vs F' H', Ext F H F' H' → RBL X.K X.mg F' H' ws vs → Q vs H') (fun c => ∀ C H', X.mg c = some (.ref C) → Sub H H' → U (.ref C) none σ H')
def VE (X : Cx) (U : WX) (e : Expr) (f : Rho → R W) : Prop := PE X e (tE X U f)
def VB (X : Cx) (U : WX) (e : Expr) (f : Rho → R W) : Prop := PE X e (tB X U f)
def VT (X : Cx) (U : WX) (e : Expr) (f : Rho → R Bool) : Prop := PT X e (tT X U f)
def VW (X : Cx) (U : WX) (e : Expr) (f : Rho → R Bool) : Prop := PW X e (tT X U f)
def VA (X : Cx) (U : WX) (es : List Expr) (f : Rho → R (List W)) : Prop := PA X es (tAF X U f)
def VAB (X : Cx) (U : WX) (es : List Expr) (f : Rho → R (List W)) : Prop := PA X es (tAB X U f)

theorem PE.imp {X : Cx} {e : Expr} {t t' : TE} (h : PE X e t) (i : ∀ σ H Q, t' σ H Q → t σ H Q) : PE X e t' := ⟨fun pins s σ H Q I q => h.run pins s σ H Q I (i _ _ _ q)⟩
theorem PT.imp {X : Cx} {e : Expr} {t t' : TT} (h : PT X e t) (i : ∀ σ H Q, t' σ H Q → t σ H Q) : PT X e t' := ⟨fun pins s σ H Q I q => h.run pins s σ H Q I (i _ _ _ q)⟩
theorem PW.imp {X : Cx} {e : Expr} {t t' : TT} (h : PW X e t) (i : ∀ σ H Q, t' σ H Q → t σ H Q) : PW X e t' := ⟨fun wh pins s σ H Q I q => h.run wh pins s σ H Q I (i _ _ _ q)⟩
theorem PA.imp {X : Cx} {e : List Expr} {t t' : TA} (h : PA X e t) (i : ∀ σ H Q, t' σ H Q → t σ H Q) : PA X e t' := ⟨fun pos pins s σ H Q I q => h.run pos pins s σ H Q I (i _ _ _ q)⟩
theorem PE.or {X : Cx} {e : Expr} {t u : TE} (h : PE X e t) (k : PE X e u) : PE X e (fun σ H Q => t σ H Q ∨ u σ H Q) :=
  ⟨fun pins s σ H Q I q => q.elim (h.run pins s σ H Q I) (k.run pins s σ H Q I)⟩
theorem PT.or {X : Cx} {e : Expr} {t u : TT} (h : PT X e t) (k : PT X e u) : PT X e (fun σ H Q => t σ H Q ∨ u σ H Q) :=
  ⟨fun pins s σ H Q I q => q.elim (h.run pins s σ H Q I) (k.run pins s σ H Q I)⟩
def NoU : WX := fun _ _ _ _ => False

section
variable {X : Cx} {U : WX}
theorem VE.b {e : Expr} {f : Rho → R W} (h : VE X U e f) : VB X U e f := PE.imp h fun σ H Q ⟨B, ρ, F, k, q⟩ =>
  ⟨B, ρ, F, k, run_mono q (fun w _ q v F' H' e r => q v F' H' e (r.rb e.sub)) fun _ q => q⟩

/-! ### names, constants -/
def fV (i : Nat) : Rho → R W := fun ρ => match ρ[i]? with
  | some (.fz w) => .ok w
  | _ => .no
def fO (i : Nat) : Rho → R W := fun ρ => match ρ[i]? with
  | some (.fz w) => .ok w
  | some (.ow (.L ds)) => .ok (.dat (.list ds))
  | some (.ow (.dK k)) => .ok (.dK k)
  | some (.ow (.dT k)) => .ok (.dT k)
  | _ => .no
def fC (w : W) : Rho → R W := fun _ => .ok w
theorem ve_var (i : Nat) {x : Str} {pos : Pos} (hN : X.N[i]? = some x := by rfl) (hv : Vis X.env.scope x := by first | exact Or.inl rfl | exact Or.inr (Or.inl rfl) | exact Or.inr (Or.inr rfl)) (hd : (x == ("__debug__" : Str)) = false := by decide)
    (hcd : (x == ("__classdict__" : Str)) = false := by decide) : VE X U (.Name x pos) (fV i) := PE.imp (pe_var hN hv hd hcd) fun σ H Q ⟨B, ρ, F, k, q⟩ => by
  unfold fV at q
  split at q
  · rename_i w e
    obtain ⟨v, hv, r⟩ := k.get e
    exact ⟨v, hv, q v F H (.refl k.sub) r⟩
  · exact q.elim
theorem EnvOk.getO {K : PySem.W.Frag} {mg : Str → Option Value} {B : Bs} {ρ : Rho} {F H : Hp} {σ : L2.St} (k : EnvOk K mg B ρ F σ H) {i : Nat} {w : W} (e : fO i ρ = .ok w) : ∃ v, σ[i]? = some (some v) ∧ RB K mg F H w v := by
  unfold fO at e
  obtain ⟨fp, h1, _⟩ := k.fp
  have h := h1 i
  rw [List.getD_eq_getElem?_getD] at h
  split at e
  · rename_i w' q
    cases e
    obtain ⟨v, hv, r⟩ := k.get q
    exact ⟨v, hv, r.rb k.sub⟩
  · rename_i ds q
    cases e
    rw [q] at h
    obtain ⟨a, h2, _, xs, h3, h4⟩ := h
    exact ⟨.ref a, h2, a, xs, rfl, h3, h4⟩
  · rename_i ds q
    cases e
    rw [q] at h
    obtain ⟨a, h2, _, xs, h3, h4⟩ := h
    exact ⟨.ref a, h2, a, xs, rfl, .inl h3, h4⟩
  · rename_i ds q
    cases e
    rw [q] at h
    obtain ⟨a, h2, _, xs, h3, h4⟩ := h
    exact ⟨.ref a, h2, a, xs, rfl, .inl h3, h4⟩
  · cases e
theorem vb_var (i : Nat) {x : Str} {pos : Pos} (hN : X.N[i]? = some x := by rfl) (hv : Vis X.env.scope x := by first | exact Or.inl rfl | exact Or.inr (Or.inl rfl) | exact Or.inr (Or.inr rfl)) (hd : (x == ("__debug__" : Str)) = false := by decide)
    (hcd : (x == ("__classdict__" : Str)) = false := by decide) : VB X U (.Name x pos) (fO i) := PE.imp (pe_var hN hv hd hcd) fun σ H Q ⟨B, ρ, F, k, q⟩ => by
  cases e : fO i ρ with
  | no => rw [e] at q; exact q.elim
  | ex c =>
    unfold fO at e
    split at e <;> cases e
  | ok w =>
    rw [e] at q
    obtain ⟨v, hv, r⟩ := k.getO e
    exact ⟨v, hv, q v F H (.refl k.sub) r⟩
theorem ve_c {e : Expr} {w : W} {v : V} (h : PE X e (tC v)) (r : ∀ F, RpW X.K X.mg F w v) : VE X U e (fC w) := PE.imp h fun σ H Q ⟨B, ρ, F, k, q⟩ => q v F H (.refl k.sub) (r F)
theorem ve_int {i : Int} {j : Nat} {pos : Pos} : VE X U (.Constant (.int i) j pos) (fC (.dat (.int i))) := ve_c pe_int fun _ => rfl
theorem ve_bl {b : Bool} {j : Nat} {pos : Pos} : VE X U (.Constant (.bool b) j pos) (fC (.dat (.bool b))) := ve_c pe_bl fun _ => rfl
theorem ve_non {j : Nat} {pos : Pos} : VE X U (.Constant .none j pos) (fC (.dat .none)) := ve_c pe_non fun _ => rfl
theorem ve_str {x : Str} {j : Nat} {pos : Pos} (l : List Nat) (hx : x = ⟨l.toArray⟩ := by decide +kernel) : VE X U (.Constant (.str x) j pos) (fC (.dat (.str ⟨l.toArray⟩))) := ve_c pe_str fun _ => by rw [hx]; rfl
/-- a module's constant, a def as a value -/
theorem ve_gl {x : Str} {w : W} {pos : Pos} (hm : ∃ u v, X.mg x = some u ∧ RelV v u ∧ ∀ F, RpW X.K X.mg F w v) (hg : Gl X x := by rfl) (hd : (x == ("__debug__" : Str)) = false := by decide) : VE X U (.Name x pos) (fC w) := by
  obtain ⟨u, v, h1, h2, h3⟩ := hm
  exact ve_c (pe_glob hg h1 h2 hd) h3

/-! ### operators -/
def VOp (X : Cx) (f : Value → Value → Sem Value) (g : W → W → R W) : Prop := ∃ r : R2, OpR X f r ∧ ∀ F H x y a b Q, Sub F H → RB X.K X.mg F H a x → RB X.K X.mg F H b y →
  run (g a b) (fun w => ∀ v F' H', Ext F H F' H' → RpW X.K X.mg F' w v → Q v H') (fun _ => False) → r x y H Q
def f2 (h : W → W → R W) (f g : Rho → R W) : Rho → R W := fun ρ => (f ρ).bind fun x => (g ρ).bind fun y => h x y
/-- two readings in a row -/
theorem two {f g : Rho → R W} {α : Type} {h : W → W → R α} {σ : L2.St} {H : Hp} {B : Bs} {ρ : Rho} {F : Hp} {T : α → Hp → Hp → Prop} {R0 : V → V → Hp → Prop} (k : EnvOk X.K X.mg B ρ F σ H)
    (q : run ((f ρ).bind fun x => (g ρ).bind fun y => h x y) (fun w => ∀ F' H', Ext F H F' H' → T w F' H') (fun c => ∀ C H', X.mg c = some (.ref C) → Sub H H' → U (.ref C) none σ H'))
    (fin : ∀ F2 H2 x y a b, Ext F H F2 H2 → EnvOk X.K X.mg B ρ F2 σ H2 → RB X.K X.mg F2 H2 a x → RB X.K X.mg F2 H2 b y →
      run (h a b) (fun w => ∀ F' H', Ext F2 H2 F' H' → T w F' H') (fun c => ∀ C H', X.mg c = some (.ref C) → Sub H2 H' → U (.ref C) none σ H') → R0 x y H2) :
    tB X U f σ H fun x H1 => tB X U g σ H1 fun y H2 => R0 x y H2 := by
  rw [run_bind] at q
  refine ⟨B, ρ, F, k, run_mono q (fun a _ q x F1 H1 e1 r1 => ?_) fun _ q => q⟩
  rw [run_bind] at q
  refine ⟨B, ρ, F1, k.ext e1, run_mono q (fun b _ q y F2 H2 e2 r2 => ?_) fun c q C H' h1 h2 => q C H' h1 (e1.hh.trans h2)⟩
  exact fin F2 H2 x y a b (e1.trans e2) ((k.ext e1).ext e2) (r1.mono e2.ff e2.hh) r2 (run_mono q (fun w _ q F' H' e3 => q F' H' ((e1.trans e2).trans e3)) fun c q C H' h1 h2 => q C H' h1 ((e1.trans e2).hh.trans h2))
theorem run_nox {X : Cx} {U : WX} {σ : L2.St} {H : Hp} {α : Type} {m : R α} {ok : α → Prop} (hno : ∀ c, m ≠ .ex c) (h : run m ok (fun c => ∀ C H', X.mg c = some (.ref C) → Sub H H' → U (.ref C) none σ H')) : run m ok (fun _ => False) := by
  cases m with
  | no => exact h
  | ex c => exact (hno c rfl).elim
  | ok a => exact h
/-- operators never raise -/
def Nox {α β : Type} (g : α → α → R β) : Prop := ∀ a b c, g a b ≠ .ex c
theorem ve_bin {op : Operator} {h : W → W → R W} {a b : Expr} {f g : Rho → R W} {pos : Pos} (ho : VOp X (binaryOp op) h) (nx : Nox h) (ha : VB X U a f) (hb : VB X U b g) : VE X U (.BinOp a op b pos) (f2 h f g) := by
  obtain ⟨r, h1, h2⟩ := ho
  refine PE.imp (pe_op h1 ha hb) fun σ H Q ⟨B, ρ, F, k, q⟩ => ?_
  refine two (T := fun w F' H' => ∀ v, RpW X.K X.mg F' w v → Q v H') k (run_mono q (fun w _ q F' H' e v r => q v F' H' e r) fun _ q => q) fun F2 H2 x y a b e2 k2 r1 r2 q => ?_
  exact h2 F2 H2 x y a b _ k2.sub r1 r2 (run_nox (X := X) (U := U) (σ := σ) (H := H2) (fun c => nx a b c) (run_mono q (fun w _ q v F' H' e r => q F' H' e v r) fun _ q => q))
theorem ve_cmp {op : CmpOp} {h : W → W → R W} {a b : Expr} {f g : Rho → R W} {pos : Pos} (ho : VOp X (compareOp op) h) (nx : Nox h) (ha : VB X U a f) (hb : VB X U b g) (hm : behindInMarks op b = false) : VE X U (.Compare a [op] [b] pos) (f2 h f g) := by
  obtain ⟨r, h1, h2⟩ := ho
  refine PE.imp (pe_cmpR h1 ha hb hm) fun σ H Q ⟨B, ρ, F, k, q⟩ => ?_
  refine two (T := fun w F' H' => ∀ v, RpW X.K X.mg F' w v → Q v H') k (run_mono q (fun w _ q F' H' e v r => q v F' H' e r) fun _ q => q) fun F2 H2 x y a b e2 k2 r1 r2 q => ?_
  exact h2 F2 H2 x y a b _ k2.sub r1 r2 (run_nox (X := X) (U := U) (σ := σ) (H := H2) (fun c => nx a b c) (run_mono q (fun w _ q v F' H' e r => q F' H' e v r) fun _ q => q))
/-- a value as a test -/
def tb : W → R Bool
  | .dat (.bool b) => .ok b
  | _ => .no
def fT (f : Rho → R W) : Rho → R Bool := fun ρ => (f ρ).bind tb
theorem tb_ok {w : W} {b : Bool} (h : tb w = .ok b) : w = .dat (.bool b) := by
  unfold tb at h
  split at h
  · cases h; rfl
  · cases h
theorem tb_nx {w : W} {c : Str} : tb w ≠ .ex c := by
  unfold tb; split <;> exact fun h => nomatch h
def tBt (t : TE) : TT := fun σ H Q => t σ H fun x H1 => ∃ c, x = .bl c ∧ Q c H1
theorem vt_of {t : TE} {f : Rho → R W} {e : Expr} (h : PT X e (tBt t)) (i : ∀ σ H Q, tE X U f σ H Q → t σ H Q) : VT X U e (fT f) := by
  refine PT.imp h fun σ H Q ⟨B, ρ, F, k, q⟩ => ?_
  refine i _ _ _ ⟨B, ρ, F, k, ?_⟩
  unfold fT at q
  rw [run_bind] at q
  refine run_mono q (fun w _ q v F' H' e r => ?_) fun _ q => q
  cases z : tb w with
  | no => rw [z] at q; exact q.elim
  | ex c => exact (tb_nx z).elim
  | ok b =>
    rw [z] at q
    rw [tb_ok z] at r
    exact ⟨b, r, q F' H' e⟩
theorem vt_val {e : Expr} {f : Rho → R W} (h : VE X U e f) (he : ∀ whole, isTrue e X.env whole = (do let v ← whole; standAt e.pos; holding [v] (truthy v)) := by intro _; rfl) : VT X U e (fT f) :=
  vt_of (pt_val h he) fun _ _ _ q => q
theorem vt_cmp {op : CmpOp} {h : W → W → R W} {a b : Expr} {f g : Rho → R W} {pos : Pos} (ho : VOp X (compareOp op) h) (nx : Nox h) (ha : VB X U a f) (hb : VB X U b g) (hm : behindInMarks op b = false) : VT X U (.Compare a [op] [b] pos) (fT (f2 h f g)) := by
  obtain ⟨r, h1, h2⟩ := ho
  refine vt_of (t := tOp r (tB X U f) (tB X U g)) (pt_cmpR h1 ha hb hm) fun σ H Q ⟨B, ρ, F, k, q⟩ => ?_
  refine two (T := fun w F' H' => ∀ v, RpW X.K X.mg F' w v → Q v H') k (run_mono q (fun w _ q F' H' e v r => q v F' H' e r) fun _ q => q) fun F2 H2 x y a b e2 k2 r1 r2 q => ?_
  exact h2 F2 H2 x y a b _ k2.sub r1 r2 (run_nox (X := X) (U := U) (σ := σ) (H := H2) (fun c => nx a b c) (run_mono q (fun w _ q v F' H' e r => q F' H' e v r) fun _ q => q))

/-! ### and, or, not, if -/
def fAnd (f g : Rho → R Bool) : Rho → R Bool := fun ρ => (f ρ).bind fun b => if b = true then g ρ else .ok false
def fOr (f g : Rho → R Bool) : Rho → R Bool := fun ρ => (f ρ).bind fun b => if b = true then .ok true else g ρ
def fNot (f : Rho → R Bool) : Rho → R Bool := fun ρ => (f ρ).bind fun b => .ok (!b)
theorem tT_bind {f : Rho → R Bool} {k : Bool → Rho → R Bool} {σ : L2.St} {H : Hp} {Q : Bool → Hp → Prop} (h : tT X U (fun ρ => (f ρ).bind fun b => k b ρ) σ H Q) : tT X U f σ H fun b H1 => tT X U (k b) σ H1 Q := by
  obtain ⟨B, ρ, F, ok, q⟩ := h
  rw [run_bind] at q
  refine ⟨B, ρ, F, ok, run_mono q (fun b _ q F1 H1 e1 => ?_) fun _ q => q⟩
  exact ⟨B, ρ, F1, ok.ext e1, run_mono q (fun b _ q F2 H2 e2 => q F2 H2 (e1.trans e2)) fun c q C H' h1 h2 => q C H' h1 (e1.hh.trans h2)⟩
theorem tT_ok {b : Bool} {σ : L2.St} {H : Hp} {Q : Bool → Hp → Prop} (h : tT X U (fun _ => .ok b) σ H Q) : Q b H := by
  obtain ⟨B, ρ, F, ok, q⟩ := h
  exact q F H (.refl ok.sub)
theorem vw_and1 {a : Expr} {pos : Pos} {f : Rho → R Bool} (h : VT X U a f) : VW X U (.BoolOp .And [a] pos) f := pw_and1 h
theorem vw_or1 {a : Expr} {pos : Pos} {f : Rho → R Bool} (h : VT X U a f) : VW X U (.BoolOp .Or [a] pos) f := pw_or1 h
theorem vw_and {a b : Expr} {rest : List Expr} {pos : Pos} {f g : Rho → R Bool} (ha : VT X U a f) (hb : VW X U (.BoolOp .And (b :: rest) pos) g) : VW X U (.BoolOp .And (a :: b :: rest) pos) (fAnd f g) :=
  PW.imp (pw_and ha hb) fun σ H Q q => by
    have := tT_bind (f := f) (k := fun b ρ => if b = true then g ρ else .ok false) q
    unfold tAnd
    obtain ⟨B, ρ, F, ok, q⟩ := this
    refine ⟨B, ρ, F, ok, run_mono q (fun b _ q F' H' e => ?_) fun _ q => q⟩
    have q := q F' H' e
    cases b with
    | true => simpa using q
    | false => simpa using tT_ok (by simpa using q)
theorem vw_or {a b : Expr} {rest : List Expr} {pos : Pos} {f g : Rho → R Bool} (ha : VT X U a f) (hb : VW X U (.BoolOp .Or (b :: rest) pos) g) : VW X U (.BoolOp .Or (a :: b :: rest) pos) (fOr f g) :=
  PW.imp (pw_or ha hb) fun σ H Q q => by
    have := tT_bind (f := f) (k := fun b ρ => if b = true then .ok true else g ρ) q
    unfold tOr
    obtain ⟨B, ρ, F, ok, q⟩ := this
    refine ⟨B, ρ, F, ok, run_mono q (fun b _ q F' H' e => ?_) fun _ q => q⟩
    have q := q F' H' e
    cases b with
    | false => simpa using q
    | true => simpa using tT_ok (by simpa using q)
theorem VW.t {e : Expr} {f : Rho → R Bool} (h : VW X U e f) : VT X U e f := PW.pt h
theorem vt_not {a : Expr} {pos : Pos} {f : Rho → R Bool} (h : VT X U a f) : VT X U (.UnaryOp .Not a pos) (fNot f) :=
  PT.imp (pt_not h) fun σ H Q q => by
    have := tT_bind (f := f) (k := fun b _ => .ok (!b)) q
    obtain ⟨B, ρ, F, ok, q⟩ := this
    exact ⟨B, ρ, F, ok, run_mono q (fun b _ q F' H' e => tT_ok (q F' H' e)) fun _ q => q⟩
/-- as values -/
def bv (b : Bool) : W := .dat (.bool b)
def fAndV (f g : Rho → R W) : Rho → R W := fun ρ => (f ρ).bind fun w => (tb w).bind fun b => if b = true then g ρ else .ok (bv false)
def fOrV (f g : Rho → R W) : Rho → R W := fun ρ => (f ρ).bind fun w => (tb w).bind fun b => if b = true then .ok (bv true) else g ρ
def fNotV (f : Rho → R W) : Rho → R W := fun ρ => (f ρ).bind fun w => (tb w).bind fun b => .ok (bv (!b))
theorem tE_bool {f : Rho → R W} {k : Bool → Rho → R W} {σ : L2.St} {H : Hp} {Q : VK} (h : tE X U (fun ρ => (f ρ).bind fun w => (tb w).bind fun b => k b ρ) σ H Q) :
    tE X U f σ H fun x H1 => ∃ c, x = .bl c ∧ tE X U (k c) σ H1 Q := by
  obtain ⟨B, ρ, F, ok, q⟩ := h
  rw [run_bind] at q
  refine ⟨B, ρ, F, ok, run_mono q (fun w _ q v F1 H1 e1 r => ?_) fun _ q => q⟩
  cases z : tb w with
  | no => rw [z] at q; exact q.elim
  | ex c => exact (tb_nx z).elim
  | ok b =>
    rw [z] at q
    rw [tb_ok z] at r
    exact ⟨b, r, B, ρ, F1, ok.ext e1, run_mono (show run (k b ρ) _ _ from q) (fun b _ q v F2 H2 e2 r => q v F2 H2 (e1.trans e2) r) fun c q C H' h1 h2 => q C H' h1 (e1.hh.trans h2)⟩
theorem tE_ok {w : W} {v : V} {σ : L2.St} {H : Hp} {Q : VK} (h : tE X U (fun _ => .ok w) σ H Q) (r : ∀ F, RpW X.K X.mg F w v) : Q v H := by
  obtain ⟨B, ρ, F, ok, q⟩ := h
  exact q v F H (.refl ok.sub) (r F)
theorem ve_one {op : PySem.BoolOp} {a : Expr} {pos : Pos} {f : Rho → R W} (h : VE X U a f) : VE X U (.BoolOp op [a] pos) f := pe_one h
theorem ve_and {a b : Expr} {rest : List Expr} {pos : Pos} {f g : Rho → R W} (ha : VE X U a f) (hb : VE X U (.BoolOp .And (b :: rest) pos) g) : VE X U (.BoolOp .And (a :: b :: rest) pos) (fAndV f g) :=
  PE.imp (pe_and ha hb) fun σ H Q q => by
    obtain ⟨B, ρ, F, ok, q⟩ := tE_bool (f := f) (k := fun b ρ => if b = true then g ρ else .ok (bv false)) q
    refine ⟨B, ρ, F, ok, run_mono q (fun w _ q v F' H' e r => ?_) fun _ q => q⟩
    obtain ⟨c, ex, q⟩ := q v F' H' e r
    refine ⟨c, ex, ?_⟩
    cases c with
    | true => simpa using q
    | false =>
      have q : tE X U (fun _ => .ok (bv false)) σ H' Q := by simpa using q
      exact iteF (tE_ok (v := .bl false) q (fun _ => rfl))
theorem ve_or {a b : Expr} {rest : List Expr} {pos : Pos} {f g : Rho → R W} (ha : VE X U a f) (hb : VE X U (.BoolOp .Or (b :: rest) pos) g) : VE X U (.BoolOp .Or (a :: b :: rest) pos) (fOrV f g) :=
  PE.imp (pe_or ha hb) fun σ H Q q => by
    obtain ⟨B, ρ, F, ok, q⟩ := tE_bool (f := f) (k := fun b ρ => if b = true then .ok (bv true) else g ρ) q
    refine ⟨B, ρ, F, ok, run_mono q (fun w _ q v F' H' e r => ?_) fun _ q => q⟩
    obtain ⟨c, ex, q⟩ := q v F' H' e r
    refine ⟨c, ex, ?_⟩
    cases c with
    | false => simpa using q
    | true =>
      have q : tE X U (fun _ => .ok (bv true)) σ H' Q := by simpa using q
      exact iteT (tE_ok (v := .bl true) q (fun _ => rfl))
theorem ve_not {a : Expr} {pos : Pos} {f : Rho → R W} (h : VE X U a f) : VE X U (.UnaryOp .Not a pos) (fNotV f) :=
  PE.imp (pe_not h) fun σ H Q q => by
    obtain ⟨B, ρ, F, ok, q⟩ := tE_bool (f := f) (k := fun b _ => .ok (bv (!b))) q
    refine ⟨B, ρ, F, ok, run_mono q (fun w _ q v F' H' e r => ?_) fun _ q => q⟩
    obtain ⟨c, ex, q⟩ := q v F' H' e r
    exact ⟨c, ex, tE_ok q (fun _ => rfl)⟩
def fIf (c : Rho → R Bool) (f g : Rho → R W) : Rho → R W := fun ρ => (c ρ).bind fun b => if b = true then f ρ else g ρ
theorem tT_bindE {f : Rho → R Bool} {k : Bool → Rho → R W} {σ : L2.St} {H : Hp} {Q : VK} (h : tE X U (fun ρ => (f ρ).bind fun b => k b ρ) σ H Q) : tT X U f σ H fun b H1 => tE X U (k b) σ H1 Q := by
  obtain ⟨B, ρ, F, ok, q⟩ := h
  rw [run_bind] at q
  refine ⟨B, ρ, F, ok, run_mono q (fun b _ q F1 H1 e1 => ?_) fun _ q => q⟩
  exact ⟨B, ρ, F1, ok.ext e1, run_mono q (fun b _ q v F2 H2 e2 r => q v F2 H2 (e1.trans e2) r) fun c q C H' h1 h2 => q C H' h1 (e1.hh.trans h2)⟩
theorem tT_bindB {f : Rho → R Bool} {k : Bool → Rho → R W} {σ : L2.St} {H : Hp} {Q : VK} (h : tB X U (fun ρ => (f ρ).bind fun b => k b ρ) σ H Q) : tT X U f σ H fun b H1 => tB X U (k b) σ H1 Q := by
  obtain ⟨B, ρ, F, ok, q⟩ := h
  rw [run_bind] at q
  refine ⟨B, ρ, F, ok, run_mono q (fun b _ q F1 H1 e1 => ?_) fun _ q => q⟩
  exact ⟨B, ρ, F1, ok.ext e1, run_mono q (fun b _ q v F2 H2 e2 r => q v F2 H2 (e1.trans e2) r) fun c q C H' h1 h2 => q C H' h1 (e1.hh.trans h2)⟩
theorem ve_if {c a b : Expr} {pos : Pos} {t : Rho → R Bool} {f g : Rho → R W} (hc : VT X U c t) (ha : VE X U a f) (hb : VE X U b g) : VE X U (.IfExp c a b pos) (fIf t f g) :=
  PE.imp (pe_ifExp hc ha hb) fun σ H Q q => by
    obtain ⟨B, ρ, F, ok, q⟩ := tT_bindE (f := t) (k := fun b ρ => if b = true then f ρ else g ρ) q
    refine ⟨B, ρ, F, ok, run_mono q (fun b _ q F' H' e => ?_) fun _ q => q⟩
    have q := q F' H' e
    cases b with
    | true => simpa using q
    | false => simpa using q
theorem vb_if {c a b : Expr} {pos : Pos} {t : Rho → R Bool} {f g : Rho → R W} (hc : VT X U c t) (ha : VB X U a f) (hb : VB X U b g) : VB X U (.IfExp c a b pos) (fIf t f g) :=
  PE.imp (pe_ifExp hc ha hb) fun σ H Q q => by
    obtain ⟨B, ρ, F, ok, q⟩ := tT_bindB (f := t) (k := fun b ρ => if b = true then f ρ else g ρ) q
    refine ⟨B, ρ, F, ok, run_mono q (fun b _ q F' H' e => ?_) fun _ q => q⟩
    have q := q F' H' e
    cases b with
    | true => simpa using q
    | false => simpa using q

/-! ### argument lists -/
def aNil : Rho → R (List W) := fun _ => .ok []
def aCons (f : Rho → R W) (g : Rho → R (List W)) : Rho → R (List W) := fun ρ => (f ρ).bind fun w => (g ρ).bind fun ws => .ok (w :: ws)
theorem va_nil : VA X U [] aNil := PA.imp pa_nil fun σ H Q ⟨B, ρ, F, k, q⟩ => q [] F H (.refl k.sub) rfl
theorem vab_nil : VAB X U [] aNil := PA.imp pa_nil fun σ H Q ⟨B, ρ, F, k, q⟩ => q [] F H (.refl k.sub) rfl
theorem va_cons {e : Expr} {es : List Expr} {f : Rho → R W} {g : Rho → R (List W)} (h : VE X U e f) (t : VA X U es g)
    (hs : starEach (e :: es) X.env = (false, eval e X.env) :: starEach es X.env := by rfl) : VA X U (e :: es) (aCons f g) :=
  PA.imp (pa_cons h t hs) fun σ H Q ⟨B, ρ, F, k, q⟩ => by
    unfold aCons at q
    rw [run_bind] at q
    refine ⟨B, ρ, F, k, run_mono q (fun w _ q v F1 H1 e1 r1 => ?_) fun _ q => q⟩
    rw [run_bind] at q
    refine ⟨B, ρ, F1, k.ext e1, run_mono q (fun ws _ q vs F2 H2 e2 r2 => ?_) fun c q C H' h1 h2 => q C H' h1 (e1.hh.trans h2)⟩
    exact q (v :: vs) F2 H2 (e1.trans e2) ⟨v, vs, rfl, r1.mono e2.ff, r2⟩
theorem vab_cons {e : Expr} {es : List Expr} {f : Rho → R W} {g : Rho → R (List W)} (h : VB X U e f) (t : VAB X U es g)
    (hs : starEach (e :: es) X.env = (false, eval e X.env) :: starEach es X.env := by rfl) : VAB X U (e :: es) (aCons f g) :=
  PA.imp (pa_cons h t hs) fun σ H Q ⟨B, ρ, F, k, q⟩ => by
    unfold aCons at q
    rw [run_bind] at q
    refine ⟨B, ρ, F, k, run_mono q (fun w _ q v F1 H1 e1 r1 => ?_) fun _ q => q⟩
    rw [run_bind] at q
    refine ⟨B, ρ, F1, k.ext e1, run_mono q (fun ws _ q vs F2 H2 e2 r2 => ?_) fun c q C H' h1 h2 => q C H' h1 (e1.hh.trans h2)⟩
    exact q (v :: vs) F2 H2 (e1.trans e2) ⟨v, vs, rfl, r1.mono e2.ff e2.hh, r2⟩

/-! ### displays -/
def pds : List W → R (List Pd)
  | [] => .ok []
  | .dat d :: ws => (pds ws).bind fun ds => .ok (d :: ds)
  | _ :: _ => .no
theorem pds_rep {K : PySem.W.Frag} {mg : Str → Option Value} {F : Hp} : ∀ {ws : List W} {vs : List V} {ds : List Pd}, RpL K mg F ws vs → pds ws = .ok ds → DsL F ds vs
  | [], _, _, h, e => by cases e; exact h
  | .dat d :: ws, _, ds, ⟨v, r, e1, h, t⟩, e => by
    unfold pds at e
    cases z : pds ws with
    | no => rw [z] at e; cases e
    | ex c => rw [z] at e; cases e
    | ok es => rw [z] at e; cases e; exact ⟨v, r, e1, h, pds_rep t z⟩
  | .kdat _ :: _, _, _, _, e => by cases e
  | .dK _ :: _, _, _, _, e => by cases e
  | .dT _ :: _, _, _, _, e => by cases e
  | .fn _ :: _, _, _, _, e => by cases e
  | .obj _ _ :: _, _, _, _, e => by cases e
theorem pds_nx : ∀ {ws : List W} {c : Str}, pds ws ≠ .ex c
  | [], _ => fun h => nomatch h
  | .dat d :: ws, c => by
    unfold pds
    cases z : pds ws with
    | no => exact fun h => nomatch h
    | ex c => exact (pds_nx z).elim
    | ok es => exact fun h => nomatch h
  | .kdat _ :: _, _ => fun h => nomatch h
  | .dK _ :: _, _ => fun h => nomatch h
  | .dT _ :: _, _ => fun h => nomatch h
  | .fn _ :: _, _ => fun h => nomatch h
  | .obj _ _ :: _, _ => fun h => nomatch h
def fits (n : Nat) : Prop := n ≤ sizeLine
noncomputable instance (n : Nat) : Decidable (fits n) := Classical.propDecidable _
noncomputable def fTup (g : Rho → R (List W)) : Rho → R W := fun ρ => (g ρ).bind fun ws => (pds ws).bind fun ds => if fits ds.length then .ok (.dat (.tuple ds)) else .no
noncomputable def fLst (g : Rho → R (List W)) : Rho → R W := fun ρ => (g ρ).bind fun ws => (pds ws).bind fun ds => if fits ds.length then .ok (.dat (.list ds)) else .no
theorem pds_run {ws : List W} {α : Type} {k : List Pd → R α} {ok : α → Prop} {ex : Str → Prop} (h : run ((pds ws).bind k) ok ex) : ∃ ds, pds ws = .ok ds ∧ run (k ds) ok ex := by
  cases z : pds ws with
  | no => rw [z] at h; exact h.elim
  | ex c => exact (pds_nx z).elim
  | ok ds => rw [z] at h; exact ⟨ds, rfl, h⟩
theorem run_if {P : Prop} [Decidable P] {α : Type} {m : R α} {ok : α → Prop} {ex : Str → Prop} (h : run (if P then m else .no) ok ex) : P ∧ run m ok ex := by
  by_cases c : P
  · rw [if_pos c] at h; exact ⟨c, h⟩
  · rw [if_neg c] at h; exact h.elim
theorem ve_tup {es : List Expr} {x1 : Nat} {pos : Pos} {g : Rho → R (List W)} (h : VA X U es g) : VE X U (.Tuple es x1 pos) (fTup g) :=
  PE.imp (pe_tup h) fun σ H Q ⟨B, ρ, F, k, q⟩ => by
    unfold fTup at q
    rw [run_bind] at q
    refine ⟨B, ρ, F, k, run_mono q (fun ws _ q vs F1 H1 e1 r1 => ?_) fun _ q => q⟩
    obtain ⟨ds, z, q⟩ := pds_run q
    obtain ⟨hf, q⟩ := run_if q
    have rd := pds_rep r1 z
    refine ⟨by rw [rd.len]; exact hf, fun p hp => ?_⟩
    exact q (.ref p) (upd F1 p (.tup vs)) _ (e1.trans (.new e1.sub hp)) ⟨p, vs, rfl, upd_same, rd.mono (.upd (e1.sub.nn hp))⟩
/-- a fresh list, not frozen -/
def tN (X : Cx) (U : WX) (f : Rho → R OT) : TE := fun σ H Q => ∃ B ρ F, EnvOk X.K X.mg B ρ F σ H ∧
  run (f ρ) (fun t => ∀ a fp F' H', Ext F H F' H' → OtR F' H' a fp t → (∀ b ∈ fp, H b = none ∧ F' b = none ∧ Ow H' b) → Q (.ref a) H') (fun c => ∀ C H', X.mg c = some (.ref C) → Sub H H' → U (.ref C) none σ H')
def VN (X : Cx) (U : WX) (e : Expr) (f : Rho → R OT) : Prop := PE X e (tN X U f)
def otw : OT → W
  | .L ds => .dat (.list ds)
  | .dK k => .dK k
  | .dT k => .dT k
  | .LL dss => .dat (.list (dss.map .list))
def fOt (f : Rho → R OT) : Rho → R W := fun ρ => (f ρ).bind fun t => .ok (otw t)
noncomputable def nLst (g : Rho → R (List W)) : Rho → R OT := fun ρ => (g ρ).bind fun ws => (pds ws).bind fun ds => if fits ds.length then .ok (.L ds) else .no
theorem vn_lst {es : List Expr} {pos : Pos} {g : Rho → R (List W)} (h : VA X U es g) : VN X U (.List es pos) (nLst g) :=
  PE.imp (pe_lst h) fun σ H Q ⟨B, ρ, F, k, q⟩ => by
    unfold nLst at q
    rw [run_bind] at q
    refine ⟨B, ρ, F, k, run_mono q (fun ws _ q vs F1 H1 e1 r1 => ?_) fun _ q => q⟩
    obtain ⟨ds, z, q⟩ := pds_run q
    obtain ⟨hf, q⟩ := run_if q
    have rd := pds_rep r1 z
    refine ⟨by rw [rd.len]; exact hf, fun p hp => ?_⟩
    refine q p [p] F1 _ (e1.trans (.newO e1.sub hp)) ⟨rfl, vs, upd_same, rd⟩ fun b hb => ?_
    rw [List.mem_singleton.mp hb]
    exact ⟨e1.hh.nn hp, e1.sub.nn hp, ⟨_, upd_same, fun _ h => nomatch h⟩⟩
end
/-- cells of one's own are frozen -/
def frzL (F H : Hp) : List Addr → Hp
  | [] => F
  | a :: l => fun b => if b = a then H a else frzL F H l b
theorem frzL_in {F H : Hp} : ∀ {l : List Addr} {b : Addr}, b ∈ l → frzL F H l b = H b
  | a :: l, b, h => by
    unfold frzL
    by_cases e : b = a
    · rw [if_pos e, e]
    · rw [if_neg e]
      rcases List.mem_cons.mp h with q | q
      · exact absurd q e
      · exact frzL_in q
theorem frzL_out {F H : Hp} : ∀ {l : List Addr} {b : Addr}, b ∉ l → frzL F H l b = F b
  | [], _, _ => rfl
  | a :: l, b, h => by
    unfold frzL
    have h1 : b ≠ a := fun e => h (by simp [e])
    rw [if_neg h1]
    exact frzL_out fun q => h (List.mem_cons_of_mem _ q)
theorem frzL_sub {F H : Hp} {l : List Addr} (h : ∀ a ∈ l, F a = none) : Sub F (frzL F H l) := fun b o e => by
  by_cases c : b ∈ l
  · rw [h b c] at e; cases e
  · rw [frzL_out c]; exact e
theorem frzL_subH {F H : Hp} {l : List Addr} (s : Sub F H) : Sub (frzL F H l) H := fun b o e => by
  by_cases c : b ∈ l
  · rw [frzL_in c] at e; exact e
  · rw [frzL_out c] at e; exact s b o e
theorem LLR.frz {F G H : Hp} (s : Sub F G) : ∀ {dss : List (List Pd)} {bs : List Addr}, (∀ b ∈ bs, G b = H b) → LLR F H dss bs → DsL G (dss.map .list) (bs.map V.ref)
  | [], _, _, h => by cases h; rfl
  | ds :: dss, _, g, ⟨b, r, xs, e, h1, h2, h3⟩ => by
    subst e
    exact ⟨.ref b, r.map V.ref, rfl, ⟨b, xs, rfl, by rw [g b (by simp)]; exact h1, h2.mono s⟩, LLR.frz s (fun c hc => g c (List.mem_cons_of_mem _ hc)) h3⟩
def OT.dict : OT → Prop
  | .dK _ => True
  | .dT _ => True
  | _ => False
theorem OtR.frz {K : PySem.W.Frag} {mg : Str → Option Value} {F G H : Hp} {a : Addr} {fp : List Addr} {t : OT} (nd : ¬ t.dict) (s : Sub F G) (g : ∀ b ∈ fp, G b = H b) (h : OtR F H a fp t) : RpW K mg G (otw t) (.ref a) := by
  cases t with
  | L ds => obtain ⟨e, xs, h1, h2⟩ := h; subst e; exact ⟨a, xs, rfl, by rw [g a (by simp)]; exact h1, h2.mono s⟩
  | dK ds => exact (nd trivial).elim
  | dT ds => exact (nd trivial).elim
  | LL dss => obtain ⟨bs, e, n, h1, h2⟩ := h; subst e; exact ⟨a, bs.map V.ref, rfl, by rw [g a (by simp)]; exact h1, LLR.frz s (fun b hb => g b (List.mem_cons_of_mem _ hb)) h2⟩
/-- a dict that is frozen is locked -/
theorem OtR.lock {X : Cx} {pins : List (Addr × Obj)} {σ : L2.St} {s : Shared} {F H : Hp} {a : Addr} {fp : List Addr} {t : OT} (d : t.dict) (sub : Sub F H) (n : F a = none) (h : OtR F H a fp t) (I : Inv X pins σ H s) :
    ∃ o, fp = [a] ∧ (∀ xs, o ≠ .tup xs) ∧ Inv X pins σ (upd H a o) s ∧ RpW X.K X.mg (upd F a o) (otw t) (.ref a) := by
  cases t with
  | L ds => exact d.elim
  | LL ds => exact d.elim
  | dK ds =>
    obtain ⟨e, xs, h1, h2⟩ := h
    obtain ⟨od, I2⟩ := I.lock h1 trivial
    exact ⟨.frz od _, e, (fun _ q => nomatch q), I2, a, od, xs, rfl, upd_same, h2.mono (.upd n)⟩
  | dT ds =>
    obtain ⟨e, xs, h1, h2⟩ := h
    obtain ⟨od, I2⟩ := I.lock h1 trivial
    exact ⟨.frz od _, e, (fun _ q => nomatch q), I2, a, od, xs, rfl, upd_same, h2.mono (.upd n)⟩
theorem Ext.lockN {F H F' H' : Hp} (e : Ext F H F' H') {a : Addr} {o : HO} (h : H a = none) (h' : F' a = none) : Ext F H (upd F' a o) (upd H' a o) :=
  ⟨e.ff.trans (.upd h'), e.hh.updR h, e.sub.upd2, fun b q => by
    by_cases c : b = a
    · subst c; exact .inr (.inl h)
    · rw [upd_ne c] at q; exact e.nw b q⟩
theorem Ext.frzL {F H F' H' : Hp} (e : Ext F H F' H') {l : List Addr} (h : ∀ b ∈ l, H b = none ∧ F' b = none) : Ext F H (Vd.frzL F' H' l) H' :=
  ⟨e.ff.trans (frzL_sub fun a ha => (h a ha).2), e.hh, frzL_subH e.sub, fun a q => by
    by_cases c : a ∈ l
    · exact .inr (.inl (h a c).1)
    · rw [frzL_out c] at q; exact e.nw a q⟩
section
variable {X : Cx} {U : WX}
theorem VN.e {e : Expr} {f : Rho → R OT} (h : VN X U e f) : VE X U e (fOt f) := ⟨fun pins s σ H Q I ⟨B, ρ, F, k, q⟩ => by
  unfold fOt at q
  rw [run_bind] at q
  refine thn (h.run pins s σ H (fun x H1 => ∃ F' fp t a, x = .ref a ∧ Ext F H F' H1 ∧ OtR F' H1 a fp t ∧ (∀ b ∈ fp, H b = none ∧ F' b = none ∧ Ow H1 b) ∧ ∀ v F2 H2, Ext F H F2 H2 → RpW X.K X.mg F2 (otw t) v → Q v H2) I
    ⟨B, ρ, F, k, run_mono q (fun t _ q a fp F' H' e r hn => ⟨F', fp, t, a, rfl, e, r, hn, fun v F2 H2 e2 r2 => q v F2 H2 e2 r2⟩) fun _ q => q⟩) fun v s1 ⟨x, H1, I2, rv, F', fp, t, a, ex, e, r, hn, q⟩ => ?_
  subst ex
  by_cases d : t.dict
  · have ha : a ∈ fp := by
      cases t with
      | L ds => exact d.elim
      | LL ds => exact d.elim
      | dK ds => obtain ⟨e, _⟩ := r; simp [e]
      | dT ds => obtain ⟨e, _⟩ := r; simp [e]
    obtain ⟨o, _, _, I3, r3⟩ := r.lock d e.sub (hn a ha).2.1 I2
    exact ⟨.ref a, _, I3, rv, q _ _ _ (e.lockN (hn a ha).1 (hn a ha).2.1) r3⟩
  · exact ⟨.ref a, H1, I2, rv, q _ (frzL F' H1 fp) H1 (e.frzL fun b hb => ⟨(hn b hb).1, (hn b hb).2.1⟩) (r.frz d (frzL_sub fun b hb => (hn b hb).2.1) fun b hb => frzL_in hb)⟩⟩
theorem ve_lst {es : List Expr} {pos : Pos} {g : Rho → R (List W)} (h : VA X U es g) : VE X U (.List es pos) (fOt (nLst g)) := (vn_lst h).e
end
end Vd

/-! Val3: operators, subscripts, built-ins by values. -/
namespace Vd
open L2 PyProof.Rows PySem PySem.Spec

abbrev S (l : List Nat) : Str := ⟨l.toArray⟩
def wI (i : Int) : W := .dat (.int i)

section
variable {X : Cx} {U : WX}
/-! ### arithmetic -/
def pAdd : W → W → R W
  | .dat (.int i), .dat (.int j) => .ok (wI (i + j))
  | .dat (.str x), .dat (.str y) => if x.length + y.length ≤ sizeLine then .ok (.dat (.str (x ++ y))) else .no
  | .dat (.list xs), .dat (.list ys) => if xs.length + ys.length ≤ sizeLine then .ok (.dat (.list (xs ++ ys))) else .no
  | .dat (.tuple xs), .dat (.tuple ys) => if xs.length + ys.length ≤ sizeLine then .ok (.dat (.tuple (xs ++ ys))) else .no
  | _, _ => .no
theorem DsL.nil_iff {F : Hp} {ds : List Pd} {xs : List V} (h : DsL F ds xs) : xs = [] ↔ ds = [] := by
  cases ds with
  | nil => cases h; simp
  | cons d r => obtain ⟨x, t, e, _⟩ := h; subst e; simp
theorem op_pAdd : VOp X (binaryOp .Add) pAdd := by
  refine ⟨_, OpR.or op_add (OpR.or op_add_str (OpR.or op_cat op_catA)), fun F H x y a b Q s ra rb q => ?_⟩
  unfold pAdd at q
  split at q
  · rename_i i j
    exact .inl ⟨i, j, ra, rb, q _ F H (.refl s) rfl⟩
  · rename_i i j
    obtain ⟨hl, q⟩ := run_if q
    exact .inr (.inl ⟨i, j, ra, rb, hl, q _ F H (.refl s) rfl⟩)
  · rename_i ds es
    obtain ⟨hl, q⟩ := run_if q
    obtain ⟨p, xs, rfl, h1, h2⟩ := ra
    obtain ⟨p', ys, rfl, h3, h4⟩ := rb
    refine .inr (.inr (.inl ⟨p, p', xs, ys, rfl, rfl, h1, h3, by rw [h2.len, h4.len]; exact hl, fun r hr => ?_⟩))
    exact q _ _ _ (.new s hr) ⟨r, _, rfl, upd_same, (h2.app h4).mono (.upd (s.nn hr))⟩
  · rename_i ds es
    obtain ⟨hl, q⟩ := run_if q
    obtain ⟨p, xs, rfl, h1, h2⟩ := ra
    obtain ⟨p', ys, rfl, h3, h4⟩ := rb
    refine .inr (.inr (.inr ⟨p, p', xs, ys, rfl, rfl, .of (s _ _ h1), .of (s _ _ h3), by rw [h2.len, h4.len]; exact hl, fun e => ?_, fun e e' => ?_, fun e e' r hr => ?_⟩))
    · have := h2.nil_iff.mp e
      subst this
      exact q _ F H (.refl s) ⟨p', ys, rfl, h3, h4⟩
    · have := h4.nil_iff.mp e'
      subst this
      exact q _ F H (.refl s) ⟨p, xs, rfl, h1, by rw [List.append_nil]; exact h2⟩
    · exact q _ _ _ (.new s hr) ⟨r, _, rfl, upd_same, (h2.app h4).mono (.upd (s.nn hr))⟩
  · exact q.elim
theorem nx_pAdd : Nox pAdd := fun a b c => by
  unfold pAdd; split <;> first | (intro h; cases h; done) | (split <;> (intro h; cases h))
def pSub : W → W → R W
  | .dat (.int i), .dat (.int j) => .ok (wI (i - j))
  | _, _ => .no
theorem op_pSub : VOp X (binaryOp .Sub) pSub := by
  refine ⟨_, op_sub, fun F H x y a b Q s ra rb q => ?_⟩
  unfold pSub at q
  split at q
  · rename_i i j; exact ⟨i, j, ra, rb, q _ F H (.refl s) rfl⟩
  · exact q.elim
theorem nx_pSub : Nox pSub := fun a b c => by unfold pSub; split <;> (intro h; cases h)
noncomputable instance (i j : Int) : Decidable (CMul i j) := Classical.propDecidable _
noncomputable instance (i j : Int) : Decidable (CDiv i j) := Classical.propDecidable _
noncomputable def pMul : W → W → R W
  | .dat (.int i), .dat (.int j) => if CMul i j then .ok (wI (i * j)) else .no
  | .dat (.list xs), .dat (.int k) => if 0 ≤ k ∧ k < 2 ^ 63 ∧ xs.length * k.toNat ≤ sizeLine then .ok (.dat (.list (List.replicate k.toNat xs).flatten)) else .no
  | .dat (.tuple xs), .dat (.int k) => if xs ≠ [] ∧ 2 ≤ k ∧ k ≤ 1000 ∧ xs.length ≤ 1000 then .ok (.dat (.tuple (List.replicate k.toNat xs).flatten)) else .no
  | _, _ => .no
theorem DsL.rep {F : Hp} {ds : List Pd} {xs : List V} (h : DsL F ds xs) : ∀ n : Nat, DsL F (List.replicate n ds).flatten (List.replicate n xs).flatten
  | 0 => rfl
  | n + 1 => by rw [List.replicate_succ, List.replicate_succ, List.flatten_cons, List.flatten_cons]; exact h.app (DsL.rep h n)
theorem op_pMul : VOp X (binaryOp .Mult) pMul := by
  refine ⟨_, OpR.or op_mul (OpR.or op_rep op_repT), fun F H x y a b Q s ra rb q => ?_⟩
  unfold pMul at q
  split at q
  · rename_i i j
    obtain ⟨hl, q⟩ := run_if q
    exact .inl ⟨i, j, ra, rb, hl, q _ F H (.refl s) rfl⟩
  · rename_i ds k
    obtain ⟨hl, q⟩ := run_if q
    obtain ⟨p, xs, rfl, h1, h2⟩ := ra
    refine .inr (.inl ⟨p, k, xs, rfl, rb, h1, by omega, hl.2.1, by rw [h2.len]; exact hl.2.2, fun r hr => ?_⟩)
    exact q _ _ _ (.new s hr) ⟨r, _, rfl, upd_same, (h2.rep _).mono (.upd (s.nn hr))⟩
  · rename_i ds k
    obtain ⟨hl, q⟩ := run_if q
    obtain ⟨p, xs, rfl, h1, h2⟩ := ra
    refine .inr (.inr ⟨p, k, xs, rfl, rb, .of (s _ _ h1), fun e => hl.1 (h2.nil_iff.mp e), hl.2.1, hl.2.2.1, by rw [h2.len]; exact hl.2.2.2, fun r hr => ?_⟩)
    exact q _ _ _ (.new s hr) ⟨r, _, rfl, upd_same, (h2.rep _).mono (.upd (s.nn hr))⟩
  · exact q.elim
theorem nx_pMul : Nox pMul := fun a b c => by
  unfold pMul; split <;> first | (intro h; cases h; done) | (split <;> (intro h; cases h))
noncomputable def pDiv : W → W → R W
  | .dat (.int i), .dat (.int j) => if CDiv i j then .ok (wI (i / j)) else .no
  | _, _ => .no
theorem op_pDiv : VOp X (binaryOp .FloorDiv) pDiv := by
  refine ⟨_, op_fdiv, fun F H x y a b Q s ra rb q => ?_⟩
  unfold pDiv at q
  split at q
  · rename_i i j
    obtain ⟨hl, q⟩ := run_if q
    exact ⟨i, j, ra, rb, hl, q _ F H (.refl s) rfl⟩
  · exact q.elim
theorem nx_pDiv : Nox pDiv := fun a b c => by
  unfold pDiv; split <;> first | (intro h; cases h; done) | (split <;> (intro h; cases h))
def pMod : W → W → R W
  | .dat (.int i), .dat (.int j) => if 0 < j then .ok (wI (i % j)) else .no
  | _, _ => .no
theorem op_pMod : VOp X (binaryOp .Mod) pMod := by
  refine ⟨_, op_mod, fun F H x y a b Q s ra rb q => ?_⟩
  unfold pMod at q
  split at q
  · rename_i i j
    obtain ⟨hl, q⟩ := run_if q
    exact ⟨i, j, ra, rb, hl, q _ F H (.refl s) rfl⟩
  · exact q.elim
theorem nx_pMod : Nox pMod := fun a b c => by
  unfold pMod; split <;> first | (intro h; cases h; done) | (split <;> (intro h; cases h))
def pNeg : W → R W
  | .dat (.int i) => .ok (wI (-i))
  | _ => .no
def f1 (h : W → R W) (f : Rho → R W) : Rho → R W := fun ρ => (f ρ).bind h
theorem ve_neg {a : Expr} {f : Rho → R W} {pos : Pos} (ha : VE X U a f) : VE X U (.UnaryOp .USub a pos) (f1 pNeg f) :=
  PE.imp (pe_un un_neg ha) fun σ H Q ⟨B, ρ, F, k, q⟩ => by
    unfold f1 at q
    rw [run_bind] at q
    refine ⟨B, ρ, F, k, run_mono q (fun w _ q v F1 H1 e1 r1 => ?_) fun _ q => q⟩
    unfold pNeg at q
    split at q
    · exact ⟨_, r1, q _ F1 H1 e1 rfl⟩
    · exact q.elim

/-! ### comparisons -/
def pCmp (p : Int → Int → Bool) : W → W → R W
  | .dat (.int i), .dat (.int j) => .ok (bv (p i j))
  | _, _ => .no
theorem nx_pCmp {p : Int → Int → Bool} : Nox (pCmp p) := fun a b c => by unfold pCmp; split <;> (intro h; cases h)
theorem op_cmp {f : Value → Value → Sem Value} {p : Int → Int → Bool} (h : OpR X f (rI0 fun i j => .bl (p i j))) : VOp X f (pCmp p) := by
  refine ⟨_, h, fun F H x y a b Q s ra rb q => ?_⟩
  unfold pCmp at q
  split at q
  · rename_i i j; exact ⟨i, j, ra, rb, q _ F H (.refl s) rfl⟩
  · exact q.elim
abbrev cLt : W → W → R W := pCmp fun i j => decide (i < j)
abbrev cLe : W → W → R W := pCmp fun i j => decide (i ≤ j)
abbrev cGt : W → W → R W := pCmp fun i j => decide (j < i)
abbrev cGe : W → W → R W := pCmp fun i j => decide (j ≤ i)
theorem op_cLt : VOp X (compareOp .Lt) cLt := op_cmp op_lt
theorem op_cLe : VOp X (compareOp .LtE) cLe := op_cmp op_le
theorem op_cGt : VOp X (compareOp .Gt) cGt := op_cmp op_gt
theorem op_cGe : VOp X (compareOp .GtE) cGe := op_cmp op_ge
def asPd : W → Option Pd
  | .dat d => some d
  | .kdat d => some d
  | _ => none
theorem RB.dp {K : PySem.W.Frag} {mg : Str → Option Value} {F H : Hp} (s : Sub F H) {w : W} {d : Pd} {v : V} (h : RB K mg F H w v) (e : asPd w = some d) : Dp K H v d := by
  cases w with
  | dat d' =>
    cases e
    cases d with
    | list ds => obtain ⟨a, xs, rfl, h1, h2⟩ := h; exact .lst (.of h1) (h2.mono s).dp
    | none => exact Ds.dp _ _ h
    | bool b => exact Ds.dp _ _ h
    | int i => exact Ds.dp _ _ h
    | str x => exact Ds.dp _ _ h
    | tuple ds => exact (Ds.mono s _ _ h).dp
    | dict _ => exact Ds.dp _ _ h
  | kdat d' => cases e; exact Dp.mono s _ _ h
  | dK _ => cases e
  | dT _ => cases e
  | fn _ => cases e
  | obj _ _ => cases e
def pEq (neg : Bool) (a b : W) : R W := match asPd a, asPd b with
  | some d, some e => if SeqAt.shaped d = true ∧ SeqAt.shaped e = true then .ok (bv (if neg then !PyData.eqv d e else PyData.eqv d e)) else .no
  | _, _ => .no
theorem nx_pEq {n : Bool} : Nox (pEq n) := fun a b c => by
  unfold pEq; split <;> first | (intro h; cases h; done) | (split <;> (intro h; cases h))
theorem op_pEq (hu : X.A.units + 64 < cLine) : VOp X (compareOp .Eq) (pEq false) := by
  refine ⟨_, op_eqD hu, fun F H x y a b Q s ra rb q => ?_⟩
  unfold pEq at q
  split at q
  · rename_i d e h1 h2
    obtain ⟨hl, q⟩ := run_if q
    exact ⟨d, e, ra.dp s h1, rb.dp s h2, hl.1, hl.2, q _ F H (.refl s) rfl⟩
  · exact q.elim
theorem op_pNe (hu : X.A.units + 64 < cLine) : VOp X (compareOp .NotEq) (pEq true) := by
  refine ⟨_, op_neD hu, fun F H x y a b Q s ra rb q => ?_⟩
  unfold pEq at q
  split at q
  · rename_i d e h1 h2
    obtain ⟨hl, q⟩ := run_if q
    exact ⟨d, e, ra.dp s h1, rb.dp s h2, hl.1, hl.2, q _ F H (.refl s) rfl⟩
  · exact q.elim
/-- is None -/
def pIs (neg : Bool) (a b : W) : R W := match b, a with
  | .dat .none, .kdat _ => .no
  | .dat .none, .dat .none => .ok (bv (!neg))
  | .dat .none, _ => .ok (bv neg)
  | _, _ => .no
theorem Ds.non {F : Hp} {d : Pd} {v : V} (h : Ds F d v) : decide (v = .non) = true ↔ d = .none := by
  cases d with
  | none => cases h; simp
  | bool b => cases h; simp
  | int i => cases h; simp
  | str x => cases h; simp
  | list ds => obtain ⟨a, xs, rfl, _⟩ := h; simp
  | tuple ds => obtain ⟨a, xs, rfl, _⟩ := h; simp
  | dict _ => exact h.elim
theorem nx_pIs {n : Bool} : Nox (pIs n) := fun a b c => by unfold pIs; split <;> (intro h; cases h)
theorem pIs_none {F H : Hp} {a : W} {x : V} (nk : ∀ d, a ≠ .kdat d) (ra : RB X.K X.mg F H a x) : x = .non ↔ a = .dat .none := by
  cases a with
  | dat d =>
    cases d with
    | none => cases ra; simp
    | bool b => cases ra; simp
    | int i => cases ra; simp
    | str x => cases ra; simp
    | list ds => obtain ⟨a, xs, rfl, _⟩ := ra; simp
    | tuple ds => obtain ⟨a, xs, rfl, _⟩ := ra; simp
    | dict _ => exact ra.elim
  | kdat d => exact (nk d rfl).elim
  | dK _ => obtain ⟨a, xs, rfl, _⟩ := ra; simp
  | dT _ => obtain ⟨a, xs, rfl, _⟩ := ra; simp
  | fn _ => obtain ⟨a, _, rfl⟩ := ra; simp
  | obj _ _ => obtain ⟨a, _, _, _, rfl, _⟩ := ra; simp
theorem op_pIs : VOp X (compareOp .Is) (pIs false) := by
  refine ⟨_, op_isN, fun F H x y a b Q s ra rb q => ?_⟩
  unfold pIs at q
  split at q
  · exact q.elim
  · cases ra; cases rb; exact ⟨rfl, q _ F H (.refl s) rfl⟩
  · rename_i h1 h2
    cases rb
    have : ¬ x = .non := fun e => h2 ((pIs_none (fun d e => h1 d e) ra).mp e)
    refine ⟨rfl, ?_⟩
    rw [decide_eq_false this]
    exact q _ F H (.refl s) rfl
  · exact q.elim
theorem op_pIsN : VOp X (compareOp .IsNot) (pIs true) := by
  refine ⟨_, op_notN, fun F H x y a b Q s ra rb q => ?_⟩
  unfold pIs at q
  split at q
  · exact q.elim
  · cases ra; cases rb; exact ⟨rfl, q _ F H (.refl s) rfl⟩
  · rename_i h1 h2
    cases rb
    have : ¬ x = .non := fun e => h2 ((pIs_none (fun d e => h1 d e) ra).mp e)
    refine ⟨rfl, ?_⟩
    rw [decide_eq_false this]
    exact q _ F H (.refl s) rfl
  · exact q.elim
/-! ### in -/
def keyT : Pd → Option (List Key)
  | .tuple ds => ds.mapM fun
    | .int i => some (Sum.inl i)
    | .str x => some (Sum.inr x)
    | _ => none
  | _ => none
def keyK : Pd → Option Key
  | .int i => some (Sum.inl i)
  | .str x => some (Sum.inr x)
  | _ => none
theorem Ds.keyK {F : Hp} {d : Pd} {v : V} {k : Key} (h : Ds F d v) (e : Vd.keyK d = some k) : v = kV k := by
  cases d with
  | int i => cases e; exact h
  | str x => cases e; exact h
  | none => cases e
  | bool b => cases e
  | list ds => cases e
  | tuple ds => cases e
  | dict _ => cases e
theorem keyL_rep {F : Hp} {f : Pd → Option Key} (hf : ∀ d k v, f d = some k → Ds F d v → v = kV k) : ∀ {ds : List Pd} {xs : List V} {ks : List Key}, DsL F ds xs → ds.mapM f = some ks → xs = ks.map kV
  | [], _, _, h, e => by cases h; simp at e; subst e; rfl
  | d :: ds, _, ks, ⟨x, r, e1, h, t⟩, e => by
    rw [List.mapM_cons] at e
    cases z : f d with
    | none => rw [z] at e; cases e
    | some k =>
      rw [z] at e
      cases z2 : ds.mapM f with
      | none => rw [z2] at e; cases e
      | some kr =>
        rw [z2] at e; cases e
        rw [e1, hf d k x z h, keyL_rep hf t z2]; rfl
theorem Ds.keyT {F : Hp} {d : Pd} {v : V} {k : List Key} (h : Ds F d v) (e : Vd.keyT d = some k) : ∃ b, v = .ref b ∧ F b = some (.tup (k.map kV)) := by
  cases d with
  | tuple ds =>
    obtain ⟨a, xs, rfl, h1, h2⟩ := h
    refine ⟨a, rfl, ?_⟩
    rw [h1, keyL_rep (fun d k v z hd => ?_) h2 e]
    revert z
    split <;> intro z
    · cases z; exact hd
    · cases z; exact hd
    · cases z
  | none => cases e
  | bool b => cases e
  | int i => cases e
  | str x => cases e
  | list ds => cases e
  | dict _ => cases e
/-- the dict's answer -/
def dLook (d : W) (k : W) : R (Option Pd) := match d, k with
  | .dK kvs, .dat y => match keyK y with
    | some k => .ok (lk kvs k)
    | none => .no
  | .dT kvs, .dat y => match keyT y with
    | some k => .ok (lk kvs k)
    | none => .no
  | _, _ => .no
theorem RB.strict {K : PySem.W.Frag} {mg : Str → Option Value} {F H : Hp} {d : Pd} {v : V} (nl : ∀ ds, d ≠ .list ds) (h : RB K mg F H (.dat d) v) : Ds F d v := by
  cases d with
  | list ds => exact (nl ds rfl).elim
  | none => exact h
  | bool b => exact h
  | int i => exact h
  | str x => exact h
  | tuple ds => exact h
  | dict _ => exact h
theorem dLook_nx {d k : W} {c : Str} : dLook d k ≠ .ex c := by
  unfold dLook
  split
  · split <;> (intro h; cases h)
  · split <;> (intro h; cases h)
  · intro h; cases h
theorem keyK_nl {y : Pd} {k : Key} (h : keyK y = some k) : ∀ ds, y ≠ .list ds := fun ds e => by subst e; cases h
theorem keyT_nl {y : Pd} {k : List Key} (h : keyT y = some k) : ∀ ds, y ≠ .list ds := fun ds e => by subst e; cases h
theorem dLook_get {K : PySem.W.Frag} {mg : Str → Option Value} {F H : Hp} (s : Sub F H) {d k : W} {x y : V} {o : Option Pd} (rd : RB K mg F H d x) (rk : RB K mg F H k y) (e : dLook d k = .ok o) :
    ∃ a r, x = .ref a ∧ DGet H a y r ∧ (o = none → r = none) ∧ ∀ p, o = some p → ∃ v, r = some v ∧ Ds F p v := by
  unfold dLook at e
  split at e
  · rename_i kvs p
    cases z : keyK p with
    | none => rw [z] at e; cases e
    | some kk =>
      rw [z] at e; cases e
      obtain ⟨a, ks, rfl, h1, h2⟩ := rd
      have hy := (rk.strict (keyK_nl z)).keyK z
      obtain ⟨g1, g2⟩ := KvP.look kk h2
      exact ⟨a, valV ks kk, rfl, .inl ⟨ks, kk, h1, hy, rfl⟩, g1, g2⟩
  · rename_i kvs p
    cases z : keyT p with
    | none => rw [z] at e; cases e
    | some kk =>
      rw [z] at e; cases e
      obtain ⟨a, ks, rfl, h1, h2⟩ := rd
      obtain ⟨b, hy, hb⟩ := (rk.strict (keyT_nl z)).keyT z
      obtain ⟨g1, g2⟩ := KvP.look kk h2
      exact ⟨a, valV ks kk, rfl, .inr ⟨ks, kk, b, h1, hy, s _ _ hb, rfl⟩, g1, g2⟩
  · cases e
def asInts : List Pd → Option (List Int)
  | [] => some []
  | .int i :: r => (asInts r).map (i :: ·)
  | _ :: _ => none
theorem asInts_rep {F : Hp} : ∀ {ds : List Pd} {xs : List V} {ns : List Int}, DsL F ds xs → asInts ds = some ns → xs = ns.map V.int
  | [], _, _, h, e => by cases h; cases e; rfl
  | .int i :: r, _, ns, ⟨x, t, e1, h, q⟩, e => by
    unfold asInts at e
    cases z : asInts r with
    | none => rw [z] at e; cases e
    | some ms =>
      rw [z] at e; cases e
      rw [e1, h, asInts_rep q z]; rfl
  | .none :: _, _, _, _, e => by cases e
  | .bool _ :: _, _, _, _, e => by cases e
  | .str _ :: _, _, _, _, e => by cases e
  | .list _ :: _, _, _, _, e => by cases e
  | .tuple _ :: _, _, _, _, e => by cases e
  | .dict _ :: _, _, _, _, e => by cases e
def pIn (a b : W) : R Bool := match b, a with
  | .dat (.list ds), .dat d => if SeqAt.shaped d = true ∧ SeqAt.shaped (.list ds) = true then .ok (ds.any fun z => PyData.eqv z d) else .no
  | .dat (.tuple ds), .dat (.int i) => match asInts ds with
    | some ns => .ok (decide (i ∈ ns))
    | none => .no
  | .dat (.str z), .dat (.str x) => match x.cps.toList with
    | [c] => .ok (decide (c ∈ z.cps.toList))
    | _ => .no
  | .dK _, _ => (dLook b a).bind fun o => .ok o.isSome
  | .dT _, _ => (dLook b a).bind fun o => .ok o.isSome
  | _, _ => .no
def pInW (neg : Bool) (a b : W) : R W := (pIn a b).bind fun r => .ok (bv (if neg then !r else r))
theorem inV_ints (i : Int) (ns : List Int) : inV (.int i) (ns.map V.int) = decide (i ∈ ns) := by
  unfold inV
  rw [List.any_map]
  induction ns with
  | nil => simp
  | cons n r ih =>
    rw [List.any_cons, ih]
    show (eqV (.int n) (.int i) || _) = _
    have : eqV (.int n) (.int i) = decide (n = i) := by
      unfold eqV; by_cases e : n = i <;> simp [e]
    rw [this]
    by_cases e : n = i
    · simp [e]
    · have e' : ¬ i = n := fun q => e q.symm
      simp [e, e']
theorem flat_ints (ns : List Int) : (ns.map V.int).all flatV = true := by
  rw [List.all_map]; simp [flatV]
end
end Vd

/-! Val4: in, subscripts, slices, calls, methods. -/
namespace Vd
open L2 PyProof.Rows PySem PySem.Spec
section
variable {X : Cx} {U : WX}
def isD : W → Bool
  | .dK _ => true
  | .dT _ => true
  | _ => false
/-- the value way, the dict's way -/
theorem in_core {neg : Bool} {f g : Rho → R W} {σ : L2.St} {H : Hp} {Q : VK} {r1 : R2} (hr : ∀ F H x y a b Q, Sub F H → RB X.K X.mg F H a x → RB X.K X.mg F H b y → isD b = false →
      run (pInW neg a b) (fun w => ∀ v F' H', Ext F H F' H' → RpW X.K X.mg F' w v → Q v H') (fun _ => False) → r1 x y H Q)
    (h : tE X U (f2 (pInW neg) f g) σ H Q) :
    tB X U f σ H fun x H1 => tB X U g σ H1 fun y H2 => (r1 x y H2 Q) ∨ (∃ a o, y = .ref a ∧ DGet H2 a x o ∧ Q (.bl (if neg then !o.isSome else o.isSome)) H2) := by
  obtain ⟨B, ρ, F, k, q⟩ := h
  refine two (T := fun w F' H' => ∀ v, RpW X.K X.mg F' w v → Q v H') k (run_mono q (fun w _ q F' H' e v r => q v F' H' e r) fun _ q => q) fun F2 H2 x y a b e2 k2 rx ry q => ?_
  cases z : isD b with
  | false =>
    refine .inl (hr F2 H2 x y a b Q k2.sub rx ry z ?_)
    have q : run (pInW neg a b) (fun w => ∀ F' H', Ext F2 H2 F' H' → ∀ v, RpW X.K X.mg F' w v → Q v H') (fun c => ∀ C H', X.mg c = some (.ref C) → Sub H2 H' → U (.ref C) none σ H') := q
    refine run_nox (X := X) (U := U) (σ := σ) (H := H2) (fun c hc => ?_) (run_mono q (fun w _ q v F' H' e r => q F' H' e v r) fun _ q => q)
    unfold pInW at hc
    cases y : pIn a b with
    | no => rw [y] at hc; cases hc
    | ok r => rw [y] at hc; cases hc
    | ex c' =>
      unfold pIn at y
      split at y
      · split at y <;> cases y
      · split at y <;> cases y
      · split at y <;> cases y
      · cases z
      · cases z
      · cases y
  | true =>
    right
    have key : ∃ o, dLook b a = .ok o ∧ pIn a b = .ok o.isSome := by
      cases b with
      | dK kvs =>
        unfold pInW pIn at q
        cases y : dLook (.dK kvs) a with
        | no => rw [y] at q; exact q.elim
        | ex c => exact (dLook_nx y).elim
        | ok o => exact ⟨o, rfl, by unfold pIn; simp only [y]; rfl⟩
      | dT kvs =>
        unfold pInW pIn at q
        cases y : dLook (.dT kvs) a with
        | no => rw [y] at q; exact q.elim
        | ex c => exact (dLook_nx y).elim
        | ok o => exact ⟨o, rfl, by unfold pIn; simp only [y]; rfl⟩
      | dat _ => cases z
      | kdat _ => cases z
      | fn _ => cases z
      | obj _ _ => cases z
    obtain ⟨o, h1, h2⟩ := key
    obtain ⟨p, r, rfl, hg, g1, g2⟩ := dLook_get k2.sub ry rx h1
    have er : r.isSome = o.isSome := by
      cases o with
      | none => rw [g1 rfl]; rfl
      | some d => obtain ⟨v, e, _⟩ := g2 d rfl; rw [e]; rfl
    refine ⟨p, r, rfl, hg, ?_⟩
    rw [er]
    unfold pInW at q
    rw [h2] at q
    exact q F2 H2 (.refl k2.sub) _ rfl
theorem val_in {F H : Hp} {x y : V} {a b : W} {Q : VK} (s : Sub F H) (ra : RB X.K X.mg F H a x) (rb : RB X.K X.mg F H b y) (nd : isD b = false)
    (q : run (pInW false a b) (fun w => ∀ v F' H', Ext F H F' H' → RpW X.K X.mg F' w v → Q v H') (fun _ => False)) :
    rInD X.K x y H Q ∨ rIn X.K false x y H Q ∨ ∃ (c : Nat) (z : Str), x = .str ⟨#[c]⟩ ∧ y = .str z ∧ Q (.bl (decide (c ∈ z.cps.toList))) H := by
  unfold pInW pIn at q
  split at q
  · rename_i ds d
    by_cases c : SeqAt.shaped d = true ∧ SeqAt.shaped (.list ds) = true
    · rw [if_pos c] at q
      exact .inl ⟨d, ds, ra.dp s rfl, rb.dp s rfl, c.1, c.2, q _ F H (.refl s) rfl⟩
    · rw [if_neg c] at q; exact q.elim
  · rename_i ds i
    cases z : asInts ds with
    | none => rw [z] at q; exact q.elim
    | some ns =>
      rw [z] at q
      obtain ⟨p, xs, rfl, h1, h2⟩ := rb
      have e := asInts_rep h2 z
      subst e
      refine .inr (.inl ⟨p, _, rfl, .inr (.of (s _ _ h1)), ?_, flat_ints ns, ?_⟩)
      · rw [show x = .int i from ra]; rfl
      · rw [show x = .int i from ra, inV_ints]; exact q _ F H (.refl s) rfl
  · rename_i z t
    split at q
    · rename_i c hc
      have et : t = ⟨#[c]⟩ := by
        cases t; simp only at hc; congr 1
        exact Array.toList_inj.mp hc
      exact .inr (.inr ⟨c, z, by rw [show x = .str t from ra, et], rb, q _ F H (.refl s) rfl⟩)
    · exact q.elim
  · cases nd
  · cases nd
  · exact q.elim
theorem val_nin {F H : Hp} {x y : V} {a b : W} {Q : VK} (s : Sub F H) (ra : RB X.K X.mg F H a x) (rb : RB X.K X.mg F H b y) (nd : isD b = false)
    (q : run (pInW true a b) (fun w => ∀ v F' H', Ext F H F' H' → RpW X.K X.mg F' w v → Q v H') (fun _ => False)) :
    rNotInD X.K x y H Q ∨ rIn X.K true x y H Q ∨ ∃ (c : Nat) (z : Str), x = .str ⟨#[c]⟩ ∧ y = .str z ∧ Q (.bl (!decide (c ∈ z.cps.toList))) H := by
  unfold pInW pIn at q
  split at q
  · rename_i ds d
    by_cases c : SeqAt.shaped d = true ∧ SeqAt.shaped (.list ds) = true
    · rw [if_pos c] at q
      exact .inl ⟨d, ds, ra.dp s rfl, rb.dp s rfl, c.1, c.2, q _ F H (.refl s) rfl⟩
    · rw [if_neg c] at q; exact q.elim
  · rename_i ds i
    cases z : asInts ds with
    | none => rw [z] at q; exact q.elim
    | some ns =>
      rw [z] at q
      obtain ⟨p, xs, rfl, h1, h2⟩ := rb
      have e := asInts_rep h2 z
      subst e
      refine .inr (.inl ⟨p, _, rfl, .inr (.of (s _ _ h1)), ?_, flat_ints ns, ?_⟩)
      · rw [show x = .int i from ra]; rfl
      · rw [show x = .int i from ra, inV_ints]; exact q _ F H (.refl s) rfl
  · rename_i z t
    split at q
    · rename_i c hc
      have et : t = ⟨#[c]⟩ := by
        cases t; simp only at hc; congr 1
        exact Array.toList_inj.mp hc
      exact .inr (.inr ⟨c, z, by rw [show x = .str t from ra, et], rb, q _ F H (.refl s) rfl⟩)
    · exact q.elim
  · cases nd
  · cases nd
  · exact q.elim
section
variable {a b : Expr} {f g : Rho → R W} {pos : Pos}
theorem pc_in (hu : X.A.units + 65 < cLine) (ha : VB X U a f) (hb : VB X U b g) : PC X .In a b (tE X U (f2 (pInW false) f g)) := by
  refine ⟨fun pins s σ H Q I q => ?_⟩
  have h := in_core (fun F H x y a b Q s ra rb nd q => val_in s ra rb nd q) q
  refine thn (ha.run pins s σ H _ I h) fun v s1 ⟨x, H1, I1, r1, q1⟩ => thn (hb.run pins s1 σ H1 _ I1 q1) fun u s2 ⟨y, H2, I2, r2, q2⟩ => ?_
  rcases q2 with q2 | ⟨p, o, rfl, g, q2⟩
  · exact OpR.or (op_inD hu) (OpR.or op_in_seq op_in_sign) pins s2 σ H2 x y v u Q I2 r1 r2 q2
  · cases r2
    exact d_in (by omega) I2 g r1 fun s3 I3 => ⟨.bl _, H2, I3, rfl, q2⟩
theorem pc_nin (hu : X.A.units + 65 < cLine) (ha : VB X U a f) (hb : VB X U b g) : PC X .NotIn a b (tE X U (f2 (pInW true) f g)) := by
  refine ⟨fun pins s σ H Q I q => ?_⟩
  have h := in_core (fun F H x y a b Q s ra rb nd q => val_nin s ra rb nd q) q
  refine thn (ha.run pins s σ H _ I h) fun v s1 ⟨x, H1, I1, r1, q1⟩ => thn (hb.run pins s1 σ H1 _ I1 q1) fun u s2 ⟨y, H2, I2, r2, q2⟩ => ?_
  rcases q2 with q2 | ⟨p, o, rfl, g, q2⟩
  · exact OpR.or (op_notInD hu) (OpR.or op_notIn_seq op_notIn_sign) pins s2 σ H2 x y v u Q I2 r1 r2 q2
  · cases r2
    exact d_notIn (by omega) I2 g r1 fun s3 I3 => ⟨.bl _, H2, I3, rfl, q2⟩
theorem ve_in (hu : X.A.units + 65 < cLine) (ha : VB X U a f) (hb : VB X U b g) (hm : behindInMarks .In b = false := by rfl) : VE X U (.Compare a [.In] [b] pos) (f2 (pInW false) f g) := pe_cmp (pc_in hu ha hb) hm
theorem ve_nin (hu : X.A.units + 65 < cLine) (ha : VB X U a f) (hb : VB X U b g) (hm : behindInMarks .NotIn b = false := by rfl) : VE X U (.Compare a [.NotIn] [b] pos) (f2 (pInW true) f g) := pe_cmp (pc_nin hu ha hb) hm
theorem vt_in (hu : X.A.units + 65 < cLine) (ha : VB X U a f) (hb : VB X U b g) (hm : behindInMarks .In b = false := by rfl) : VT X U (.Compare a [.In] [b] pos) (fT (f2 (pInW false) f g)) := vt_of (pt_cmp (pc_in hu ha hb) hm) fun _ _ _ q => q
theorem vt_nin (hu : X.A.units + 65 < cLine) (ha : VB X U a f) (hb : VB X U b g) (hm : behindInMarks .NotIn b = false := by rfl) : VT X U (.Compare a [.NotIn] [b] pos) (fT (f2 (pInW true) f g)) := vt_of (pt_cmp (pc_nin hu ha hb) hm) fun _ _ _ q => q
end
/-! ### chains -/
def fChain (h h' : W → W → R W) (f g k : Rho → R W) : Rho → R W := fun ρ => (f ρ).bind fun x => (g ρ).bind fun y => (h x y).bind fun w => (tb w).bind fun c => if c = true then (k ρ).bind fun z => h' y z else .ok (bv false)
theorem chain_core {h h' : W → W → R W} {r r' : R2} {f g k : Rho → R W} {σ : L2.St} {H : Hp} {Q : VK} (nx : Nox h) (nx' : Nox h')
    (hr : ∀ F H x y a b Q, Sub F H → RB X.K X.mg F H a x → RB X.K X.mg F H b y → run (h a b) (fun w => ∀ v F' H', Ext F H F' H' → RpW X.K X.mg F' w v → Q v H') (fun _ => False) → r x y H Q)
    (hr' : ∀ F H x y a b Q, Sub F H → RB X.K X.mg F H a x → RB X.K X.mg F H b y → run (h' a b) (fun w => ∀ v F' H', Ext F H F' H' → RpW X.K X.mg F' w v → Q v H') (fun _ => False) → r' x y H Q)
    (q : tE X U (fChain h h' f g k) σ H Q) : tChain r r' (tB X U f) (tB X U g) (tB X U k) σ H Q := by
  obtain ⟨B, ρ, F, ok, q⟩ := q
  unfold fChain at q
  rw [run_bind] at q
  refine ⟨B, ρ, F, ok, run_mono q (fun a _ q x F1 H1 e1 r1 => ?_) fun _ q => q⟩
  rw [run_bind] at q
  refine ⟨B, ρ, F1, ok.ext e1, run_mono q (fun b _ q y F2 H2 e2 r2 => ?_) fun c q C H' h1 h2 => q C H' h1 (e1.hh.trans h2)⟩
  rw [run_bind] at q
  have e12 := e1.trans e2
  refine hr F2 H2 x y a b _ e12.sub (r1.mono e2.ff e2.hh) r2 ?_
  cases z : h a b with
  | no => rw [z] at q; exact q.elim
  | ex c => exact (nx a b c z).elim
  | ok w =>
    rw [z] at q
    intro v F3 H3 e3 r3
    have q : run ((tb w).bind fun c => if c = true then (k ρ).bind fun z => h' b z else .ok (bv false)) _ _ := q
    cases z2 : tb w with
    | no => rw [z2] at q; exact q.elim
    | ex c => exact (tb_nx z2).elim
    | ok c =>
      rw [z2] at q
      rw [tb_ok z2] at r3
      refine ⟨c, r3, ?_⟩
      have q : run (if c = true then (k ρ).bind fun z => h' b z else .ok (bv false)) _ _ := q
      have e13 := e12.trans e3
      cases c with
      | false => exact iteF (by rw [if_neg (by decide)] at q; exact q _ F3 H3 e13 rfl)
      | true =>
        rw [if_pos rfl, run_bind] at q
        refine iteT ⟨B, ρ, F3, ok.ext e13, run_mono q (fun d _ q t F4 H4 e4 r4 => ?_) fun c q C H' h1 h2 => q C H' h1 (e13.hh.trans h2)⟩
        refine hr' F4 H4 y t b d Q e4.sub ((r2.mono e3.ff e3.hh).mono e4.ff e4.hh) r4 ?_
        refine run_nox (X := X) (U := U) (σ := σ) (H := H4) (fun c => nx' b d c) (run_mono q (fun w _ q v F' H' e r => q v F' H' (((e13).trans e4).trans e) r) fun c q C H' h1 h2 => q C H' h1 ((e13.trans e4).hh.trans h2))
section
variable {a b c : Expr} {f g k : Rho → R W} {pos : Pos} {op op' : CmpOp} {h h' : W → W → R W}
theorem ve_chain (ho : VOp X (compareOp op) h) (nx : Nox h) (ho' : VOp X (compareOp op') h') (nx' : Nox h') (ha : VB X U a f) (hb : VB X U b g) (hc : VB X U c k)
    (hm : lastMarks [op, op'] [b, c] = false := by with_unfolding_all rfl) : VE X U (.Compare a [op, op'] [b, c] pos) (fChain h h' f g k) := by
  obtain ⟨r, h1, h2⟩ := ho
  obtain ⟨r', h3, h4⟩ := ho'
  exact PE.imp (pe_chain h1 h3 ha hb hc hm) fun σ H Q q => chain_core nx nx' h2 h4 q
theorem vt_chain (ho : VOp X (compareOp op) h) (nx : Nox h) (ho' : VOp X (compareOp op') h') (nx' : Nox h') (ha : VB X U a f) (hb : VB X U b g) (hc : VB X U c k)
    (hm : lastMarks [op, op'] [b, c] = false := by with_unfolding_all rfl) : VT X U (.Compare a [op, op'] [b, c] pos) (fT (fChain h h' f g k)) := by
  obtain ⟨r, h1, h2⟩ := ho
  obtain ⟨r', h3, h4⟩ := ho'
  exact vt_of (pt_chain h1 h3 ha hb hc hm) fun σ H Q q => chain_core nx nx' h2 h4 q
end
end
end Vd

/-! Val5: subscripts, slices, calls. -/
namespace Vd
open L2 PyProof.Rows PySem PySem.Spec
section
variable {X : Cx} {U : WX}
def kw : Pd → W
  | .list ds => .kdat (.list ds)
  | .tuple ds => .kdat (.tuple ds)
  | d => .dat d
theorem dp_kw {K : PySem.W.Frag} {mg : Str → Option Value} {F : Hp} {d : Pd} {v : V} (h : Dp K F v d) : RpW K mg F (Vd.kw d) v := by
  cases d with
  | none => cases h; rfl
  | bool b => cases h; rfl
  | int i => cases h; rfl
  | str x => cases h; rfl
  | list ds => exact h
  | tuple ds => exact h
  | dict _ => cases h
theorem DpL.len {K : PySem.W.Frag} {F : Hp} : ∀ {ds : List Pd} {xs : List V}, DpAll K F xs ds → xs.length = ds.length
  | [], _, h => by cases h; rfl
  | _ :: _, _, h => by cases h with | cons _ t => simp [DpL.len t]
theorem DpL.get {K : PySem.W.Frag} {F : Hp} : ∀ {ds : List Pd} {xs : List V} {i : Nat} {d : Pd}, DpAll K F xs ds → ds[i]? = some d → ∃ x, xs[i]? = some x ∧ Dp K F x d
  | [], _, _, _, _, e => by simp at e
  | d :: ds, _, 0, d', h, q => by cases h with | cons h1 _ => simp at q; subst q; exact ⟨_, rfl, h1⟩
  | d :: ds, _, i + 1, d', h, q => by cases h with | cons _ t => simp at q; simpa using DpL.get t q
theorem atI_bind {α : Type} {xs : List α} {i : Int} {x : α} (h : atI xs i = some x) : ∃ j, ixN xs.length i = some j ∧ xs[j]? = some x := by
  unfold atI at h
  cases z : ixN xs.length i with
  | none => rw [z] at h; cases h
  | some j => rw [z] at h; exact ⟨j, rfl, h⟩
theorem atI_rep {F : Hp} {ds : List Pd} {xs : List V} {i : Int} {d : Pd} (h : DsL F ds xs) (e : atI ds i = some d) : ∃ x, atI xs i = some x ∧ Ds F d x := by
  obtain ⟨j, h1, h2⟩ := atI_bind e
  obtain ⟨x, h3, h4⟩ := h.get h2
  refine ⟨x, ?_, h4⟩
  unfold atI
  rw [h.len, h1]; exact h3
theorem atI_repK {K : PySem.W.Frag} {F : Hp} {ds : List Pd} {xs : List V} {i : Int} {d : Pd} (h : DpAll K F xs ds) (e : atI ds i = some d) : ∃ x, atI xs i = some x ∧ Dp K F x d := by
  obtain ⟨j, h1, h2⟩ := atI_bind e
  obtain ⟨x, h3, h4⟩ := DpL.get h h2
  refine ⟨x, ?_, h4⟩
  unfold atI
  rw [DpL.len h, h1]; exact h3
def optW (f : Pd → W) : Option Pd → R W
  | some d => .ok (f d)
  | none => .no
def pGet (a b : W) : R W := match a, b with
  | .dat (.list ds), .dat (.int i) => optW .dat (atI ds i)
  | .dat (.tuple ds), .dat (.int i) => optW .dat (atI ds i)
  | .dat (.str z), .dat (.int i) => if z.length ≤ sizeLine then (match atI z.cps.toList i with
    | some c => .ok (.dat (.str (S [c])))
    | none => .no) else .no
  | .kdat (.list ds), .dat (.int i) => optW kw (atI ds i)
  | .kdat (.tuple ds), .dat (.int i) => optW kw (atI ds i)
  | .dK kvs, k => (dLook (.dK kvs) k).bind (optW .dat)
  | .dT kvs, k => (dLook (.dT kvs) k).bind (optW .dat)
  | _, _ => .no
theorem nx_optW {f : Pd → W} {o : Option Pd} {c : Str} : optW f o ≠ .ex c := by
  unfold optW; split <;> (intro h; cases h)
theorem nx_pGet : Nox pGet := fun a b c => by
  unfold pGet
  split
  · exact nx_optW
  · exact nx_optW
  · split
    · split <;> (intro h; cases h)
    · intro h; cases h
  · exact nx_optW
  · exact nx_optW
  · intro h
    cases z : dLook _ b with
    | no => rw [z] at h; cases h
    | ex c => exact dLook_nx z
    | ok o => rw [z] at h; exact nx_optW h
  · intro h
    cases z : dLook _ b with
    | no => rw [z] at h; cases h
    | ex c => exact dLook_nx z
    | ok o => rw [z] at h; exact nx_optW h
  · intro h; cases h
def rIxDc : R2 := fun x y H Q => ∃ a v, x = .ref a ∧ DGet H a y (some v) ∧ Q v H
theorem ix_dc (hu : X.A.units + 1 < cLine) : IxR X rIxDc := by
  intro value slice pins s σ H x y v u Q I rx ry h hs
  obtain ⟨a, z, rfl, g, q⟩ := h
  cases rx
  exact tail_any (dict_typeIs I g) PySem.F.slot_dict_getitem.lookup (d_getItem hu I g ry fun w' s3 I3 rw' => ⟨z, H, I3, rw', q⟩) hs
theorem run_optW {f : Pd → W} {o : Option Pd} {ok : W → Prop} {ex : Str → Prop} (h : run (optW f o) ok ex) : ∃ d, o = some d ∧ ok (f d) := by
  cases o with
  | none => exact h.elim
  | some d => exact ⟨d, rfl, h⟩
theorem val_get {F H : Hp} {x y : V} {a b : W} {Q : VK} (s : Sub F H) (ra : RB X.K X.mg F H a x) (rb : RB X.K X.mg F H b y)
    (q : run (pGet a b) (fun w => ∀ v F' H', Ext F H F' H' → RpW X.K X.mg F' w v → Q v H') (fun _ => False)) : rIx X.K x y H Q ∨ rIxDc x y H Q := by
  unfold pGet at q
  split at q
  · rename_i ds i
    obtain ⟨d, e, q⟩ := run_optW q
    obtain ⟨p, xs, rfl, h1, h2⟩ := ra
    obtain ⟨z, e2, hz⟩ := atI_rep h2 e
    exact .inl (.inl ⟨p, xs, i, z, rfl, rb, .of h1, e2, q _ F H (.refl s) hz⟩)
  · rename_i ds i
    obtain ⟨d, e, q⟩ := run_optW q
    obtain ⟨p, xs, rfl, h1, h2⟩ := ra
    obtain ⟨z, e2, hz⟩ := atI_rep h2 e
    exact .inl (.inr (.inl ⟨p, xs, i, z, rfl, rb, .of (s _ _ h1), e2, q _ F H (.refl s) hz⟩))
  · rename_i z i
    obtain ⟨hl, q⟩ := run_if q
    split at q
    · rename_i c hc
      exact .inl (.inr (.inr ⟨z, i, c, ra, rb, hl, hc, q _ F H (.refl s) rfl⟩))
    · exact q.elim
  · rename_i ds i
    obtain ⟨d, e, q⟩ := run_optW q
    cases ra with
    | @lst p xs ds h1 h2 =>
      obtain ⟨z, e2, hz⟩ := atI_repK h2 e
      exact .inl (.inl ⟨p, xs, i, z, rfl, rb, L2.Same.seq s h1, e2, q _ F H (.refl s) (dp_kw hz)⟩)
  · rename_i ds i
    obtain ⟨d, e, q⟩ := run_optW q
    have ra' : Dp X.K H x (.tuple ds) := Dp.mono s _ _ ra
    cases ra with
    | @tup p xs ds h1 h2 =>
      cases ra' with
      | tup h1' _ =>
        obtain ⟨z, e2, hz⟩ := atI_repK h2 e
        refine .inl (.inr (.inl ⟨p, xs, i, z, rfl, rb, ?_, e2, q _ F H (.refl s) (dp_kw hz)⟩))
        rcases h1 with h1 | h1
        · exact .inl (rdM s h1)
        · exact .inr h1
  · rename_i kvs
    cases z : dLook (.dK kvs) b with
    | no => rw [z] at q; exact q.elim
    | ex c => exact (dLook_nx z).elim
    | ok o =>
      rw [z] at q
      obtain ⟨d, e, q⟩ := run_optW q
      obtain ⟨p, r, rfl, hg, _, g2⟩ := dLook_get s ra rb z
      obtain ⟨v, rfl, hv⟩ := g2 d e
      exact .inr ⟨p, v, rfl, hg, q _ F H (.refl s) hv⟩
  · rename_i kvs
    cases z : dLook (.dT kvs) b with
    | no => rw [z] at q; exact q.elim
    | ex c => exact (dLook_nx z).elim
    | ok o =>
      rw [z] at q
      obtain ⟨d, e, q⟩ := run_optW q
      obtain ⟨p, r, rfl, hg, _, g2⟩ := dLook_get s ra rb z
      obtain ⟨v, rfl, hv⟩ := g2 d e
      exact .inr ⟨p, v, rfl, hg, q _ F H (.refl s) hv⟩
  · exact q.elim
theorem ve_get {a b : Expr} {f g : Rho → R W} {pos : Pos} (hu : X.A.units + 65 < cLine) (ha : VB X U a f) (hb : VB X U b g) (hs : PlainIx b := by exact fun _ _ => rfl) : VE X U (.Subscript a b pos) (f2 pGet f g) := by
  refine PE.imp (pe_ix (IxR.or ix_seq (ix_dc (by omega))) ha hb hs) fun σ H Q ⟨B, ρ, F, k, q⟩ => ?_
  refine two (T := fun w F' H' => ∀ v, RpW X.K X.mg F' w v → Q v H') k (run_mono q (fun w _ q F' H' e v r => q v F' H' e r) fun _ q => q) fun F2 H2 x y a b e2 k2 r1 r2 q => ?_
  exact val_get k2.sub r1 r2 (run_nox (X := X) (U := U) (σ := σ) (H := H2) (fun c => nx_pGet a b c) (run_mono q (fun w _ q v F' H' e r => q F' H' e v r) fun _ q => q))
/-! ### slices -/
def VO (X : Cx) (U : WX) (e : Option Expr) (f : Rho → R (Option Int)) : Prop := PO X e (fun σ H Q => ∃ B ρ F, EnvOk X.K X.mg B ρ F σ H ∧
  run (f ρ) (fun o => ∀ F' H', Ext F H F' H' → Q o H') (fun c => ∀ C H', X.mg c = some (.ref C) → Sub H H' → U (.ref C) none σ H'))
theorem PO.imp {e : Option Expr} {t t' : TO} (h : PO X e t) (i : ∀ σ H Q, t' σ H Q → t σ H Q) : PO X e t' := ⟨fun pins s σ H Q I q => h.run pins s σ H Q I (i _ _ _ q)⟩
def asI : W → R (Option Int)
  | .dat (.int i) => .ok (some i)
  | _ => .no
def oNo : Rho → R (Option Int) := fun _ => .ok none
def oSo (f : Rho → R W) : Rho → R (Option Int) := fun ρ => (f ρ).bind asI
theorem vo_no : VO X U none oNo := PO.imp po_none fun σ H Q ⟨B, ρ, F, k, q⟩ => q F H (.refl k.sub)
theorem vo_so {e : Expr} {f : Rho → R W} (h : VE X U e f) : VO X U (some e) (oSo f) := PO.imp (po_some h) fun σ H Q ⟨B, ρ, F, k, q⟩ => by
  unfold oSo at q
  rw [run_bind] at q
  refine ⟨B, ρ, F, k, run_mono q (fun w _ q v F1 H1 e1 r1 => ?_) fun _ q => q⟩
  unfold asI at q
  split at q
  · exact ⟨_, r1, q F1 H1 e1⟩
  · exact q.elim
def cutD {α : Type} (xs : List α) (lo hi : Option Int) : List α := (xs.drop (HT.sIx xs.length 0 lo)).take (HT.sIx xs.length xs.length hi - HT.sIx xs.length 0 lo)
def pSl (a : W) (lo hi : Option Int) : R W := match a with
  | .dat (.list ds) => .ok (.dat (.list (cutD ds lo hi)))
  | .dat (.tuple ds) => .ok (.dat (.tuple (cutD ds lo hi)))
  | .dat (.str z) => if z.length ≤ sizeLine then .ok (.dat (.str (S (cutD z.cps.toList lo hi)))) else .no
  | _ => .no
def fSl (f : Rho → R W) (lo hi : Rho → R (Option Int)) : Rho → R W := fun ρ => (f ρ).bind fun a => (lo ρ).bind fun l => (hi ρ).bind fun h => pSl a l h
theorem DsL.cut {F : Hp} {ds : List Pd} {xs : List V} (h : DsL F ds xs) (lo hi : Option Int) : DsL F (cutD ds lo hi) (cutV xs lo hi) := by
  unfold cutD cutV
  rw [h.len]
  exact (h.drop _).take _
theorem cut_whole {α : Type} {xs : List α} {lo hi : Option Int} (h : HT.sIx xs.length 0 lo = 0 ∧ HT.sIx xs.length xs.length hi = xs.length) : cutD xs lo hi = xs := by
  unfold cutD; rw [h.1, h.2]; simp
theorem val_sl {F H : Hp} {x : V} {a : W} {lo hi : Option Int} {Q : VK} (s : Sub F H) (ra : RB X.K X.mg F H a x)
    (q : run (pSl a lo hi) (fun w => ∀ v F' H', Ext F H F' H' → RpW X.K X.mg F' w v → Q v H') (fun _ => False)) : rSlL X.K x lo hi H Q ∨ rSlA X.K x lo hi H Q ∨ rSlS x lo hi H Q := by
  unfold pSl at q
  split at q
  · rename_i ds
    obtain ⟨p, xs, rfl, h1, h2⟩ := ra
    refine .inl ⟨p, xs, rfl, .of h1, fun r hr => q _ _ _ (.new s hr) ⟨r, _, rfl, upd_same, (h2.cut lo hi).mono (.upd (s.nn hr))⟩⟩
  · rename_i ds
    obtain ⟨p, xs, rfl, h1, h2⟩ := ra
    refine .inr (.inl ⟨p, xs, rfl, .of (s _ _ h1), fun hw => ?_, fun hw r hr => q _ _ _ (.new s hr) ⟨r, _, rfl, upd_same, (h2.cut lo hi).mono (.upd (s.nn hr))⟩⟩)
    rw [h2.len] at hw
    rw [cut_whole hw] at q
    exact q _ F H (.refl s) ⟨p, xs, rfl, h1, h2⟩
  · rename_i z
    obtain ⟨hl, q⟩ := run_if q
    exact .inr (.inr ⟨z, ra, hl, q _ F H (.refl s) rfl⟩)
  · exact q.elim
theorem nx_pSl {a : W} {lo hi : Option Int} {c : Str} : pSl a lo hi ≠ .ex c := by
  unfold pSl; split <;> first | (intro h; cases h; done) | (split <;> (intro h; cases h))
theorem ve_sl {e : Expr} {lo hi : Option Expr} {f : Rho → R W} {l h : Rho → R (Option Int)} {p2 pos : Pos} (he : VB X U e f) (hl : VO X U lo l) (hh : VO X U hi h) : VE X U (.Subscript e (.Slice lo hi none p2) pos) (fSl f l h) := by
  refine PE.imp (pe_slice (SlR.or sl_list (SlR.or sl_tupA sl_str)) he hl hh) fun σ H Q ⟨B, ρ, F, k, q⟩ => ?_
  unfold fSl at q
  rw [run_bind] at q
  refine ⟨B, ρ, F, k, run_mono q (fun a _ q x F1 H1 e1 r1 => ?_) fun _ q => q⟩
  rw [run_bind] at q
  refine ⟨B, ρ, F1, k.ext e1, run_mono q (fun lo _ q F2 H2 e2 => ?_) fun c q C H' h1 h2 => q C H' h1 (e1.hh.trans h2)⟩
  rw [run_bind] at q
  have e12 := e1.trans e2
  refine ⟨B, ρ, F2, k.ext e12, run_mono q (fun hi _ q F3 H3 e3 => ?_) fun c q C H' h1 h2 => q C H' h1 (e12.hh.trans h2)⟩
  have e13 := e12.trans e3
  refine val_sl e13.sub ((r1.mono e2.ff e2.hh).mono e3.ff e3.hh) (run_nox (X := X) (U := U) (σ := σ) (H := H3) (fun c => nx_pSl) (run_mono q (fun w _ q v F' H' e r => q v F' H' (e13.trans e) r) fun c q C H' h1 h2 => q C H' h1 (e13.hh.trans h2)))
/-! ### calls of built-ins -/
def VCal (X : Cx) (fv : Value) (g : List W → R W) : Prop := ∃ r, CallR X fv r ∧ ∀ F H xs ws Q, Sub F H → RBL X.K X.mg F H ws xs → run (g ws) (fun w => ∀ v F' H', Ext F H F' H' → RpW X.K X.mg F' w v → Q v H') (fun _ => False) → r xs H Q
def NoxL (g : List W → R W) : Prop := ∀ ws c, g ws ≠ .ex c
def fCal (g : List W → R W) (t : Rho → R (List W)) : Rho → R W := fun ρ => (t ρ).bind g
theorem tCB_core {g : List W → R W} {r : List V → Hp → VK → Prop} {t : Rho → R (List W)} (nx : NoxL g)
    (hr : ∀ F H xs ws Q, Sub F H → RBL X.K X.mg F H ws xs → run (g ws) (fun w => ∀ v F' H', Ext F H F' H' → RpW X.K X.mg F' w v → Q v H') (fun _ => False) → r xs H Q) {σ : L2.St} {H : Hp} {Q : VK}
    (q : tE X U (fCal g t) σ H Q) : tCB r (tAB X U t) σ H Q := by
  obtain ⟨B, ρ, F, k, q⟩ := q
  unfold fCal at q
  rw [run_bind] at q
  refine ⟨B, ρ, F, k, run_mono q (fun ws _ q vs F1 H1 e1 r1 => ?_) fun _ q => q⟩
  exact hr F1 H1 vs ws Q e1.sub r1 (run_nox (X := X) (U := U) (σ := σ) (H := H1) (fun c => nx ws c) (run_mono q (fun w _ q v F' H' e r => q v F' H' (e1.trans e) r) fun c q C H' h1 h2 => q C H' h1 (e1.hh.trans h2)))
theorem ve_callB {x : Str} {id : String} {g : List W → R W} {t : Rho → R (List W)} {e : Expr} {es : List Expr} {p pos : Pos} (hc : VCal X (.builtin id) g) (nx : NoxL g) (hm : X.mg x = none) (hv : bootBuiltins x = some (.builtin id)) (ha : VAB X U (e :: es) t)
    (hg : Gl X x := by rfl) (hn : x ≠ "__name__" := by decide) (hdb : (x == ("__debug__" : Str)) = false := by decide) (he : starEach (e :: es) X.env = (false, eval e X.env) :: starEach es X.env := by rfl) (hpl : (backTo pos (starEach es X.env)).any (·.1) = false := by rfl) :
    VE X U (.Call (.Name x p) (e :: es) [] pos) (fCal g t) := by
  obtain ⟨r, h1, h2⟩ := hc
  exact PE.imp (pe_callB h1 hg hm hv ha hn hdb he hpl) fun σ H Q q => tCB_core nx h2 q
theorem ve_callTy {x : Str} {T : String} {g : List W → R W} {t : Rho → R (List W)} {e : Expr} {es : List Expr} {p pos : Pos} (hc : VCal X (.type T) g) (nx : NoxL g) (hm : X.mg x = none) (hv : bootBuiltins x = some (.type T)) (ha : VAB X U (e :: es) t)
    (hg : Gl X x := by rfl) (hn : x ≠ "__name__" := by decide) (hdb : (x == ("__debug__" : Str)) = false := by decide) (he : starEach (e :: es) X.env = (false, eval e X.env) :: starEach es X.env := by rfl) (hpl : (backTo pos (starEach es X.env)).any (·.1) = false := by rfl) :
    VE X U (.Call (.Name x p) (e :: es) [] pos) (fCal g t) := by
  obtain ⟨r, h1, h2⟩ := hc
  exact PE.imp (pe_callTy h1 hg hm hv ha hn hdb he hpl) fun σ H Q q => tCB_core nx h2 q
/-! ### calls of defs -/
def spV (K : PySem.W.Frag) (mg : Str → Option Value) (n : Nat) (G : List W → R W) : Sp := fun vs H Q E => ∃ F ws, vs.length = n ∧ Sub F H ∧ RpL K mg F ws vs ∧
  run (G ws) (fun w => ∀ v F' H', Ext F H F' H' → RpW K mg F' w v → Q v H') (fun c => ∀ C H', mg c = some (.ref C) → Sub H H' → E (.ref C) none H')
/-- a def of the module, by its name: at level k it computes G of n arguments -/
structure Fn (P : Program) (w : World) (K : PySem.W.Frag) (mg : Str → Option Value) (base : Heap) (k : Nat) (x : Str) (n : Nat) (G : List W → R W) : Prop where
  ex : ∃ f fd ps, ps.length = n ∧ FnOk P w K mg base (L2N.CX P w) k f fd ps (spV K mg n G) ∧ mg x = some (.ref f) ∧ PySem.W.keepIn K (.ref f) = true ∧ Binds K fd ps []
theorem ve_call {k j n : Nat} {x : Str} {G : List W → R W} {t : Rho → R (List W)} {e : Expr} {es : List Expr} {p pos : Pos} (F : Fn X.prog X.w X.K X.mg X.base k x n G) (tk : L2N.Takes X U) (hr : Room j X.A) (hk : k ≤ j) (hl : (e :: es).length = n) (ha : VA X U (e :: es) t)
    (hlen : ∀ ρ ws, t ρ = .ok ws → ws.length = n)
    (hg : Gl X x := by rfl) (hdb : (x == ("__debug__" : Str)) = false := by decide) (he : starEach (e :: es) X.env = (false, eval e X.env) :: starEach es X.env := by rfl) (hpl : (backTo pos (starEach es X.env)).any (·.1) = false := by rfl) :
    VE X U (.Call (.Name x p) (e :: es) [] pos) (fCal G t) := by
  obtain ⟨f, fd, ps, hn, h1, h2, h3, h4⟩ := F.ex
  refine PE.imp (pe_callS h1 (hr.mono hk) hg h2 h3 h4 (fun σ => L2N.passAt tk σ) ha hdb he hpl) fun σ H Q ⟨B, ρ, F, ok, q⟩ => ?_
  unfold fCal at q
  rw [run_bind] at q
  refine ⟨B, ρ, F, ok, run_mono q (fun ws ew q vs F1 H1 e1 r1 => ?_) fun _ q => q⟩
  exact ⟨F1, ws, by rw [r1.len]; exact hlen ρ ws ew, e1.sub, r1, run_mono q (fun w _ q v F' H' e r => q v F' H' (e1.trans e) r) fun c q C H' h1 h2 => q C H' h1 (e1.hh.trans h2)⟩
theorem aNil_len (ρ : Rho) (ws : List W) (h : aNil ρ = .ok ws) : ws.length = 0 := by cases h; rfl
theorem aCons_len {f : Rho → R W} {g : Rho → R (List W)} {n : Nat} (hg : ∀ ρ ws, g ρ = .ok ws → ws.length = n) (ρ : Rho) (ws : List W) (h : aCons f g ρ = .ok ws) : ws.length = n + 1 := by
  unfold aCons at h
  cases z : f ρ with
  | no => rw [z] at h; cases h
  | ex c => rw [z] at h; cases h
  | ok w =>
    rw [z] at h
    cases y : g ρ with
    | no => have h : (g ρ).bind _ = _ := h; rw [y] at h; cases h
    | ex c => have h : (g ρ).bind _ = _ := h; rw [y] at h; cases h
    | ok ws' => have h : (g ρ).bind _ = _ := h; rw [y] at h; cases h; simp [hg ρ ws' y]
end
end Vd

/-! Val6: statements. -/
namespace Vd
open L2 PyProof.Rows PySem PySem.Spec
/-- how a statement ends; ro: it returns, and the objects stand so; rn: a fresh object is returned -/
inductive Out where
  | nx (ρ : Rho) | rt (w : W) | ro (w : W) (ρ : Rho) | rn (c : Str) (fs : Fs)
def pOut (X : Cx) (B : Bs) (D : Ends) : Out → Prop
  | .nx ρ' => ∀ F' σ' H', EnvOk X.K X.mg B ρ' F' σ' H' → D.nx σ' H'
  | .rt w => ∀ v F' H', Ext B.F0 B.H0 F' H' → RpW X.K X.mg F' w v → D.rt v H'
  | .ro w ρ' => ∀ v F' σ' H', EnvOk X.K X.mg B ρ' F' σ' H' → RpW X.K X.mg F' w v → D.rt v H'
  | .rn c fs => ∀ b fp F' H', Ext B.F0 B.H0 F' H' → SlR X.K X.mg F' H' fp (some (some (.ref b))) (.ob b c fs) → (∀ x ∈ fp, B.H0 x = none ∧ F' x = none ∧ Ow H' x) → D.rt (.ref b) H'
def pEx (X : Cx) (U : WX) (B : Bs) (c : Str) : Prop := ∀ C σ' H', X.mg c = some (.ref C) → σ'.length = B.n → Sub B.H0 H' → U (.ref C) none σ' H'
def tS (X : Cx) (U : WX) (g : Rho → R Out) : TS := fun D σ H => ∃ B ρ F, EnvOk X.K X.mg B ρ F σ H ∧ run (g ρ) (pOut X B D) (pEx X U B)
def VS (X : Cx) (U : WX) (s : Stmt) (g : Rho → R Out) : Prop := PS X s (tS X U g)
def VSs (X : Cx) (U : WX) (s : List Stmt) (g : Rho → R Out) : Prop := PSs X s (tS X U g)
theorem PS.imp {X : Cx} {e : Stmt} {t t' : TS} (h : PS X e t) (i : ∀ D σ H, t' D σ H → t D σ H) : PS X e t' := ⟨fun pins s σ H Q I q => h.run pins s σ H Q I (i _ _ _ q)⟩
theorem PSs.imp {X : Cx} {e : List Stmt} {t t' : TS} (h : PSs X e t) (i : ∀ D σ H, t' D σ H → t D σ H) : PSs X e t' := ⟨fun pins s σ H Q I q => h.run pins s σ H Q I (i _ _ _ q)⟩
section
variable {K : PySem.W.Frag} {mg : Str → Option Value} {B : Bs} {ρ ρ' : Rho} {F F' H H' : Hp} {σ σ' : L2.St}
theorem EnvOk.rebase (k : EnvOk K mg B ρ F σ H) : EnvOk K mg ⟨F, B.H0, B.n⟩ ρ F σ H :=
  ⟨k.sub, .refl F, k.h0, fun _ h => .inl h, k.len, k.lenB, k.fp⟩
theorem EnvOk.back (k : EnvOk K mg B ρ F σ H) (j : EnvOk K mg ⟨F, B.H0, B.n⟩ ρ' F' σ' H') : EnvOk K mg B ρ' F' σ' H' :=
  ⟨j.sub, k.f0.trans j.f0, j.h0, fun a h => (j.nw a h).elim (fun h => k.nw a h) .inr, j.len, j.lenB, j.fp⟩
theorem EnvOk.backE (k : EnvOk K mg B ρ F σ H) (e : Ext F B.H0 F' H') : Ext B.F0 B.H0 F' H' :=
  ⟨k.f0.trans e.ff, e.hh, e.sub, fun a h => (e.nw a h).elim (fun h => k.nw a h) .inr⟩
theorem EnvOk.finE (k : EnvOk K mg B ρ F σ H) (e : Ext F H F' H') : Ext B.F0 B.H0 F' H' := (k.ext e).fin
end
section
variable {X : Cx} {U : WX}
theorem ex_of {B : Bs} {ρ : Rho} {F H : Hp} {σ : L2.St} (k : EnvOk X.K X.mg B ρ F σ H) {c : Str} (h : pEx X U B c) : ∀ C H', X.mg c = some (.ref C) → Sub H H' → U (.ref C) none σ H' :=
  fun C H' h1 h2 => h C σ H' h1 (k.len.trans k.lenB) (k.h0.trans h2)
/-! ### blocks -/
def gSeq (g h : Rho → R Out) : Rho → R Out := fun ρ => (g ρ).bind fun
  | .nx ρ' => h ρ'
  | .rt w => .ok (.rt w)
  | .ro w ρ' => .ok (.ro w ρ')
  | .rn c fs => .ok (.rn c fs)
def gNil : Rho → R Out := fun ρ => .ok (.nx ρ)
theorem seq_core {g h : Rho → R Out} {D : Ends} {σ : L2.St} {H : Hp} (q : tS X U (gSeq g h) D σ H) : tS X U g { D with nx := tS X U h D } σ H := by
  obtain ⟨B, ρ, F, k, q⟩ := q
  unfold gSeq at q
  rw [run_bind] at q
  refine ⟨B, ρ, F, k, run_mono q (fun o _ q => ?_) fun _ q => q⟩
  cases o with
  | nx ρ' => exact fun F' σ' H' k' => ⟨B, ρ', F', k', q⟩
  | rt w => exact q
  | ro w ρ' => exact q
  | rn c fs => exact q
theorem vss_cons {s : Stmt} {r : List Stmt} {g h : Rho → R Out} (hs : VS X U s g) (hr : VSs X U r h) : VSs X U (s :: r) (gSeq g h) :=
  PSs.imp (pss_cons hs hr) fun D σ H q => seq_core q
theorem vss_one {s : Stmt} {g : Rho → R Out} (hs : VS X U s g) : VSs X U [s] g := pss_one hs
theorem vss_nil : VSs X U [] gNil := PSs.imp pss_nil fun D σ H ⟨B, ρ, F, k, q⟩ => q F σ H k
/-- slots are given up, owned cells frozen, ahead of a statement -/
def fzS : Sl → Sl
  | .ow t => .fz (otw t)
  | s => s
def frzAt (i : Nat) (ρ : Rho) : Rho := ρ.set i (fzS (ρ.getD i .un))
def killAt : List Nat → Rho → Rho
  | [], ρ => ρ
  | i :: is, ρ => (killAt is ρ).set i .un
theorem killAt_len (ρ : Rho) : ∀ is : List Nat, (killAt is ρ).length = ρ.length
  | [] => rfl
  | i :: is => by unfold killAt; rw [List.length_set, killAt_len ρ is]
theorem killAt_get (ρ : Rho) : ∀ (is : List Nat) (j : Nat), (killAt is ρ).getD j .un = ρ.getD j .un ∨ (killAt is ρ).getD j .un = .un
  | [], j => .inl rfl
  | i :: is, j => by
    unfold killAt
    by_cases h : i < (killAt is ρ).length
    · rw [getD_set h]
      by_cases e : j = i
      · rw [if_pos e]; exact .inr rfl
      · rw [if_neg e]; exact killAt_get ρ is j
    · rw [List.set_eq_of_length_le (by omega)]; exact killAt_get ρ is j
theorem EnvOk.killL {K : PySem.W.Frag} {mg : Str → Option Value} {B : Bs} {ρ : Rho} {F H : Hp} {σ : L2.St} (k : EnvOk K mg B ρ F σ H) (is : List Nat) : EnvOk K mg B (killAt is ρ) F σ H :=
  k.kill (killAt_len ρ is) fun j => killAt_get ρ is j
theorem LLR.same {F G H H' : Hp} (s : Sub F G) : ∀ {dss : List (List Pd)} {bs : List Addr}, (∀ b ∈ bs, H' b = H b) → LLR F H dss bs → LLR G H' dss bs
  | [], _, _, h => h
  | _ :: _, _, g, ⟨b, r, xs, e, h1, h2, h3⟩ => by
    subst e
    exact ⟨b, r, xs, rfl, by rw [g b (by simp)]; exact h1, h2.mono s, LLR.same s (fun c hc => g c (List.mem_cons_of_mem _ hc)) h3⟩
theorem OtR.same {F G H H' : Hp} {a : Addr} {l : List Addr} {t : OT} (s : Sub F G) (g : ∀ b ∈ l, H' b = H b) (h : OtR F H a l t) : OtR G H' a l t := by
  cases t with
  | L ds => obtain ⟨e, xs, h1, h2⟩ := h; subst e; exact ⟨rfl, xs, by rw [g a (by simp)]; exact h1, h2.mono s⟩
  | dK ds => obtain ⟨e, xs, h1, h2⟩ := h; subst e; exact ⟨rfl, xs, by rw [g a (by simp)]; exact h1, h2.mono s⟩
  | dT ds => obtain ⟨e, xs, h1, h2⟩ := h; subst e; exact ⟨rfl, xs, by rw [g a (by simp)]; exact h1, h2.mono s⟩
  | LL dss => obtain ⟨bs, e, nd, h1, h2⟩ := h; subst e; exact ⟨bs, rfl, nd, by rw [g a (by simp)]; exact h1, h2.same s fun b hb => g b (List.mem_cons_of_mem _ hb)⟩
theorem SlR.same {K : PySem.W.Frag} {mg : Str → Option Value} {F G H H' : Hp} {fp : List Addr} {o : Option (Option V)} {l : Sl} (h : SlR K mg F H fp o l) (s : Sub F G) (g : ∀ b ∈ fp, H' b = H b) : SlR K mg G H' fp o l := by
  cases l with
  | un => exact h
  | fz w => obtain ⟨e, v, h1, h2⟩ := h; exact ⟨e, v, h1, h2.mono s⟩
  | ow o => obtain ⟨a, h1, h2⟩ := h; exact ⟨a, h1, h2.same s g⟩
  | ob a c fs =>
    obtain ⟨C, dx, vs, bs, h1, h2, h3, h4, h5, h6⟩ := h
    subst h3
    exact ⟨C, dx, vs, bs, h1, h2, rfl, h4, by rw [g a (by simp)]; exact h5, h6.same s fun b hb => g b (List.mem_cons_of_mem _ hb)⟩
theorem EnvOk.frzI {X : Cx} {pins : List (Addr × Obj)} {s : Shared} {B : Bs} {ρ : Rho} {F H : Hp} {σ : L2.St} (k : EnvOk X.K X.mg B ρ F σ H) (I : Inv X pins σ H s) (i : Nat) : ∃ F' H', EnvOk X.K X.mg B (frzAt i ρ) F' σ H' ∧ Inv X pins σ H' s := by
  unfold frzAt
  by_cases hi : i < ρ.length
  · obtain ⟨fp, h1, h2, h3⟩ := k.fp
    cases e : ρ.getD i .un with
    | un => refine ⟨F, H, ?_, I⟩; rw [show fzS .un = ρ.getD i .un from e.symm]; refine k.kill (by simp) fun j => .inl ?_; rw [getD_set hi]; by_cases c : j = i <;> simp [c]
    | fz w => refine ⟨F, H, ?_, I⟩; rw [show fzS (.fz w) = ρ.getD i .un from e.symm]; refine k.kill (by simp) fun j => .inl ?_; rw [getD_set hi]; by_cases c : j = i <;> simp [c]
    | ob a c fs => refine ⟨F, H, ?_, I⟩; rw [show fzS (.ob a c fs) = ρ.getD i .un from e.symm]; refine k.kill (by simp) fun j => .inl ?_; rw [getD_set hi]; by_cases c : j = i <;> simp [c]
    | ow t =>
      have hs := h1 i
      rw [e] at hs
      obtain ⟨a, hσ, ho⟩ := hs
      have key : ∃ F' H', Inv X pins σ H' s ∧ Sub F F' ∧ Sub F' H' ∧ RpW X.K X.mg F' (otw t) (.ref a) ∧ (∀ b, b ∉ fp i → F' b = F b ∧ H' b = H b) ∧ Sub B.H0 H' := by
        by_cases d : t.dict
        · have ha : a ∈ fp i := by
            cases t with
            | L ds => exact d.elim
            | LL ds => exact d.elim
            | dK ds => obtain ⟨e, _⟩ := ho; simp [e]
            | dT ds => obtain ⟨e, _⟩ := ho; simp [e]
          obtain ⟨o, e1, _, I3, r3⟩ := ho.lock d k.sub (h2 i a ha).1 I
          refine ⟨_, _, I3, .upd (h2 i a ha).1, k.sub.upd2, r3, fun b hb => ?_, k.h0.updR (h2 i a ha).2.1⟩
          have : b ≠ a := fun z => hb (by rw [e1, z]; simp)
          exact ⟨upd_ne this, upd_ne this⟩
        · have s1 : Sub F (frzL F H (fp i)) := frzL_sub fun b hb => (h2 i b hb).1
          exact ⟨frzL F H (fp i), H, I, s1, frzL_subH k.sub, ho.frz d s1 fun b hb => frzL_in hb, fun b hb => ⟨frzL_out hb, rfl⟩, k.h0⟩
      obtain ⟨F', H', I', s1, s2, rw', hout, s0⟩ := key
      refine ⟨F', H', ⟨s2, k.f0.trans s1, s0, fun b hb => ?_, by simpa using k.len, by simpa using k.lenB, fun j => if j = i then [] else fp j, fun j => ?_, fun j b hb => ?_, fun j l b hb hc => ?_⟩, I'⟩
      · by_cases c : b ∈ fp i
        · exact .inr (.inl (h2 i b c).2.1)
        · rw [(hout b c).1] at hb; exact k.nw b hb
      · show SlR X.K X.mg _ H' (if j = i then [] else fp j) _ _
        rw [getD_set hi]
        by_cases c : j = i
        · subst c
          rw [if_pos rfl, if_pos rfl]
          exact ⟨rfl, .ref a, hσ, rw'⟩
        · rw [if_neg c, if_neg c]
          have hj := h1 j
          cases z : ρ.getD j .un with
          | un => rw [z] at hj; exact hj
          | fz w => rw [z] at hj; obtain ⟨e1, v, e2, e3⟩ := hj; exact ⟨e1, v, e2, e3.mono s1⟩
          | ow u => rw [z] at hj; obtain ⟨b, hb, hu⟩ := hj; exact ⟨b, hb, hu.same s1 fun x hx => (hout x fun q => c (h3 j i x hx q)).2⟩
          | ob a c' fs => rw [z] at hj; exact hj.same s1 fun x hx => (hout x fun q => c (h3 j i x hx q)).2
      · have hb : b ∈ (if j = i then [] else fp j) := hb
        by_cases c : j = i
        · rw [if_pos c] at hb; cases hb
        · rw [if_neg c] at hb
          obtain ⟨q1, q2, u, q3, q4⟩ := h2 j b hb
          have hn : b ∉ fp i := fun z => c (h3 j i b hb z)
          exact ⟨by rw [(hout b hn).1]; exact q1, q2, u, by rw [(hout b hn).2]; exact q3, q4⟩
      · have hb : b ∈ (if j = i then [] else fp j) := hb
        have hc : b ∈ (if l = i then [] else fp l) := hc
        by_cases c : j = i
        · rw [if_pos c] at hb; cases hb
        · by_cases c' : l = i
          · rw [if_pos c'] at hc; cases hc
          · rw [if_neg c] at hb; rw [if_neg c'] at hc; exact h3 j l b hb hc
  · refine ⟨F, H, ?_, I⟩
    rw [List.set_eq_of_length_le (by omega)]; exact k
theorem vs_frz (i : Nat) {s : Stmt} {g : Rho → R Out} (h : VS X U s g) : VS X U s (fun ρ => g (frzAt i ρ)) := ⟨fun pins sh σ H D I ⟨B, ρ, F, k, q⟩ => by
  obtain ⟨F', H', k', I'⟩ := k.frzI I i
  exact h.run pins sh σ H' D I' ⟨B, _, F', k', q⟩⟩
theorem vss_frz (i : Nat) {s : List Stmt} {g : Rho → R Out} (h : VSs X U s g) : VSs X U s (fun ρ => g (frzAt i ρ)) := ⟨fun pins sh σ H D I ⟨B, ρ, F, k, q⟩ => by
  obtain ⟨F', H', k', I'⟩ := k.frzI I i
  exact h.run pins sh σ H' D I' ⟨B, _, F', k', q⟩⟩
/-! ### simple statements -/
def gDo (f : Rho → R W) : Rho → R Out := fun ρ => (f ρ).bind fun _ => .ok (.nx ρ)
theorem vs_expr {e : Expr} {pos : Pos} {f : Rho → R W} (h : VE X U e f) (hs : swapsWith e none pos.line X.env = pure false := by rfl) : VS X U (.Expr e pos) (gDo f) := PS.imp (ps_expr h hs) fun D σ H ⟨B, ρ, F, k, q⟩ => by
  unfold gDo at q
  rw [run_bind] at q
  exact ⟨B, ρ, F, k, run_mono q (fun w _ q v F' H' e r => q F' σ H' (k.ext e)) fun c q => ex_of k q⟩
def gRet (f : Rho → R W) : Rho → R Out := fun ρ => (f ρ).bind fun w => .ok (.rt w)
theorem vs_ret {e : Expr} {pos : Pos} {f : Rho → R W} (h : VE X U e f) : VS X U (.Return (some e) pos) (gRet f) := PS.imp (ps_ret h) fun D σ H ⟨B, ρ, F, k, q⟩ => by
  unfold gRet at q
  rw [run_bind] at q
  exact ⟨B, ρ, F, k, run_mono q (fun w _ q v F' H' e r => q v F' H' (k.finE e) r) fun c q => ex_of k q⟩
def setF (i : Nat) (w : W) (ρ : Rho) : R Rho := if i < ρ.length then .ok (ρ.set i (.fz w)) else .no
def gSet (i : Nat) (f : Rho → R W) : Rho → R Out := fun ρ => (f ρ).bind fun w => (setF i w ρ).bind fun ρ' => .ok (.nx ρ')
theorem setF_run {i : Nat} {w : W} {ρ : Rho} {α : Type} {k : Rho → R α} {ok : α → Prop} {ex : Str → Prop} (h : run ((setF i w ρ).bind k) ok ex) : i < ρ.length ∧ run (k (ρ.set i (.fz w))) ok ex := by
  unfold setF at h
  by_cases c : i < ρ.length
  · rw [if_pos c] at h; exact ⟨c, h⟩
  · rw [if_neg c] at h; exact h.elim
theorem vs_set (i : Nat) {x : Str} {e : Expr} {p pos : Pos} {f : Rho → R W} (h : VE X U e f) (hN : X.N.Nodup) (hi : X.N[i]? = some x := by rfl) (hx : Loc X.env.scope x := by first | exact .inl rfl | exact .inr rfl)
    (hf : X.fn x = true ∨ X.env.scope.names.lookup x = some .local := by first | exact .inl rfl | exact .inr rfl) (hs : swapsWithSole [.Name x p] e pos.line X.env = pure false := by rfl) : VS X U (.Assign [.Name x p] e pos) (gSet i f) := PS.imp (ps_asg h (pg_name (i := i) hN hi hx hf) hs) fun D σ H ⟨B, ρ, F, k, q⟩ => by
  unfold gSet at q
  rw [run_bind] at q
  refine ⟨B, ρ, F, k, run_mono q (fun w _ q v F' H' e r => ?_) fun c q => ex_of k q⟩
  obtain ⟨hl, q⟩ := setF_run q
  exact q F' _ H' ((k.ext e).setF hl r)
theorem EnvOk.setO {K : PySem.W.Frag} {mg : Str → Option Value} {B : Bs} {ρ : Rho} {F F' H H' : Hp} {σ : L2.St} (k : EnvOk K mg B ρ F σ H) (e : Ext F H F' H') {i : Nat} {a : Addr} {l : List Addr} {t : OT} (hi : i < ρ.length)
    (o : OtR F' H' a l t) (hn : ∀ b ∈ l, H b = none ∧ F' b = none ∧ Ow H' b) : EnvOk K mg B (ρ.set i (.ow t)) F' (σ.set i (some (.ref a))) H' := by
  have k' := k.ext e
  obtain ⟨fp, h1, h2, h3⟩ := k.fp
  refine ⟨k'.sub, k'.f0, k'.h0, k'.nw, by simpa using k.len, by simpa using k.lenB, fun j => if j = i then l else fp j, fun j => ?_, fun j b hb => ?_, fun j m b hb hc => ?_⟩
  · show SlR K mg F' H' (if j = i then l else fp j) _ _
    rw [getD_set hi]
    by_cases c : j = i
    · subst c
      rw [if_pos rfl, if_pos rfl]
      exact ⟨a, List.getElem?_set_self (by rw [k.len]; exact hi), o⟩
    · rw [if_neg c, if_neg c, List.getElem?_set_ne (Ne.symm c)]
      exact (h1 j).mono e.ff e.hh
  · have hb : b ∈ (if j = i then l else fp j) := hb
    by_cases c : j = i
    · rw [if_pos c] at hb
      obtain ⟨q1, q2, q3⟩ := hn b hb
      exact ⟨q2, k.h0.nn q1, q3⟩
    · rw [if_neg c] at hb
      obtain ⟨q1, q2, q3⟩ := h2 j b hb
      refine ⟨?_, q2, q3.mono e.hh⟩
      cases z : F' b with
      | none => rfl
      | some u => exact ((e.nw b (by rw [z]; exact fun h => nomatch h)).elim (fun y => y q1) fun y => q3.not y).elim
  · have hb : b ∈ (if j = i then l else fp j) := hb
    have hc : b ∈ (if m = i then l else fp m) := hc
    by_cases c : j = i
    · by_cases c' : m = i
      · rw [c, c']
      · rw [if_pos c] at hb; rw [if_neg c'] at hc
        exact ((h2 m b hc).2.2.ne (hn b hb).1).elim
    · by_cases c' : m = i
      · rw [if_neg c] at hb; rw [if_pos c'] at hc
        exact ((h2 j b hb).2.2.ne (hn b hc).1).elim
      · rw [if_neg c] at hb; rw [if_neg c'] at hc; exact h3 j m b hb hc
def setO (i : Nat) (t : OT) (ρ : Rho) : R Rho := if i < ρ.length then .ok (ρ.set i (.ow t)) else .no
theorem setO_run {i : Nat} {w : OT} {ρ : Rho} {α : Type} {k : Rho → R α} {ok : α → Prop} {ex : Str → Prop} (h : run ((setO i w ρ).bind k) ok ex) : i < ρ.length ∧ run (k (ρ.set i (.ow w))) ok ex := by
  unfold setO at h
  by_cases c : i < ρ.length
  · rw [if_pos c] at h; exact ⟨c, h⟩
  · rw [if_neg c] at h; exact h.elim
def gOwn (i : Nat) (f : Rho → R OT) : Rho → R Out := fun ρ => (f ρ).bind fun t => (setO i t ρ).bind fun ρ' => .ok (.nx ρ')
theorem vs_own (i : Nat) {x : Str} {e : Expr} {p pos : Pos} {f : Rho → R OT} (h : VN X U e f) (hN : X.N.Nodup) (hi : X.N[i]? = some x := by rfl) (hx : Loc X.env.scope x := by first | exact .inl rfl | exact .inr rfl)
    (hf : X.fn x = true ∨ X.env.scope.names.lookup x = some .local := by first | exact .inl rfl | exact .inr rfl) (hs : swapsWithSole [.Name x p] e pos.line X.env = pure false := by rfl) : VS X U (.Assign [.Name x p] e pos) (gOwn i f) := PS.imp (ps_asg h (pg_name (i := i) hN hi hx hf) hs) fun D σ H ⟨B, ρ, F, k, q⟩ => by
  unfold gOwn at q
  rw [run_bind] at q
  refine ⟨B, ρ, F, k, run_mono q (fun w _ q a fp F' H' e r hn => ?_) fun c q => ex_of k q⟩
  obtain ⟨hl, q⟩ := setO_run q
  exact q F' _ H' (k.setO e hl r hn)
def gIf (c : Rho → R Bool) (g h : Rho → R Out) : Rho → R Out := fun ρ => (c ρ).bind fun b => if b = true then g ρ else h ρ
theorem vs_if {c : Expr} {a b : List Stmt} {pos : Pos} {t : Rho → R Bool} {g h : Rho → R Out} (hc : VT X U c t) (ha : VSs X U a g) (hb : VSs X U b h) : VS X U (.If c a b pos) (gIf t g h) :=
  PS.imp (ps_if hc ha hb) fun D σ H ⟨B, ρ, F, k, q⟩ => by
    unfold gIf at q
    rw [run_bind] at q
    refine ⟨B, ρ, F, k, run_mono q (fun b _ q F' H' e => ?_) fun c q => ex_of k q⟩
    cases b with
    | true => exact iteT ⟨B, ρ, F', k.ext e, by simpa using q⟩
    | false => exact iteF ⟨B, ρ, F', k.ext e, by simpa using q⟩
/-! ### targets -/
def tG (X : Cx) (sl : List Nat) (t : W → Rho → R Rho) : TG := fun v σ H Q => ∃ B ρ F w, EnvOk X.K X.mg B ρ F σ H ∧ RpW X.K X.mg F w v ∧
  run (t w ρ) (fun ρ' => ∀ σ', EnvOk X.K X.mg B ρ' F σ' H → (∀ j, j ∉ sl → σ'[j]? = σ[j]?) → σ'.length = σ.length → Q σ' H) (fun _ => False)
def VG (X : Cx) (tg : Expr) (sl : List Nat) (t : W → Rho → R Rho) : Prop := PG X tg (tG X sl t)
def VGs (X : Cx) (tg : List Expr) (sl : List Nat) (t : List W → Rho → R Rho) : Prop := PGs X tg (fun vs σ H Q => ∃ B ρ F ws, EnvOk X.K X.mg B ρ F σ H ∧ RpL X.K X.mg F ws vs ∧
  run (t ws ρ) (fun ρ' => ∀ σ', EnvOk X.K X.mg B ρ' F σ' H → (∀ j, j ∉ sl → σ'[j]? = σ[j]?) → σ'.length = σ.length → Q σ' H) (fun _ => False))
theorem PG.imp {X : Cx} {e : Expr} {t t' : TG} (h : PG X e t) (i : ∀ v σ H Q, t' v σ H Q → t v σ H Q) : PG X e t' := ⟨fun pins s σ H v u Q I r q => h.run pins s σ H v u Q I r (i _ _ _ _ q)⟩
theorem PGs.imp {X : Cx} {e : List Expr} {t t' : TGs} (h : PGs X e t) (i : ∀ v σ H Q, t' v σ H Q → t v σ H Q) : PGs X e t' := ⟨fun pins s σ H v u Q I r q => h.run pins s σ H v u Q I r (i _ _ _ _ q)⟩
def nG (i : Nat) : W → Rho → R Rho := fun w ρ => setF i w ρ
theorem vg_name (i : Nat) {x : Str} {pos : Pos} (hN : X.N.Nodup) (hi : X.N[i]? = some x := by rfl) (hx : Loc X.env.scope x := by first | exact .inl rfl | exact .inr rfl)
    (hf : X.fn x = true ∨ X.env.scope.names.lookup x = some .local := by first | exact .inl rfl | exact .inr rfl) : VG X (.Name x pos) [i] (nG i) := PG.imp (pg_name (i := i) hN hi hx hf) fun v σ H Q ⟨B, ρ, F, w, k, r, q⟩ => by
  unfold nG setF at q
  obtain ⟨hl, q⟩ := run_if q
  exact q _ (k.setF hl r) (fun j hj => by rw [List.getElem?_set_ne]; intro e; exact hj (by simp [e])) (by simp)
def nilG : List W → Rho → R Rho
  | [], ρ => .ok ρ
  | _ :: _, _ => .no
def consG (t : W → Rho → R Rho) (u : List W → Rho → R Rho) : List W → Rho → R Rho
  | w :: ws, ρ => (t w ρ).bind fun ρ' => u ws ρ'
  | [], _ => .no
theorem vgs_nil : VGs X [] [] nilG := PGs.imp pgs_nil fun vs σ H Q ⟨B, ρ, F, ws, k, r, q⟩ => by
  cases ws with
  | nil => cases r; exact ⟨rfl, q σ k (fun _ _ => rfl) rfl⟩
  | cons w ws => exact q.elim
theorem vgs_cons {e : Expr} {es : List Expr} {s1 s2 : List Nat} {t : W → Rho → R Rho} {u : List W → Rho → R Rho} (h : VG X e s1 t) (hs : VGs X es s2 u)
    (he : (assignEach (e :: es) X.env).map (·.2) = assign e X.env :: (assignEach es X.env).map (·.2) := by rfl) : VGs X (e :: es) (s1 ++ s2) (consG t u) := PGs.imp (pgs_cons h hs he) fun vs σ H Q ⟨B, ρ, F, ws, k, r, q⟩ => by
  cases ws with
  | nil => exact q.elim
  | cons w ws =>
    obtain ⟨v, vr, rfl, r1, r2⟩ := r
    refine ⟨v, vr, rfl, B, ρ, F, w, k, r1, ?_⟩
    have q : run ((t w ρ).bind fun ρ' => u ws ρ') _ _ := q
    rw [run_bind] at q
    refine run_mono q (fun ρ' _ q σ1 k1 n1 l1 => ⟨B, ρ', F, ws, k1, r2, run_mono q (fun ρ'' _ q σ2 k2 n2 l2 => q σ2 k2 (fun j hj => ?_) (l2.trans l1)) fun _ q => q⟩) fun _ q => q
    rw [n2 j fun z => hj (by simp [z]), n1 j fun z => hj (by simp [z])]
def tupG (n : Nat) (t : List W → Rho → R Rho) : W → Rho → R Rho
  | .dat (.tuple ds), ρ => if ds.length = n then t (ds.map .dat) ρ else .no
  | .kdat (.tuple ds), ρ => if ds.length = n then t (ds.map kw) ρ else .no
  | _, _ => .no
theorem DsL.rpl {K : PySem.W.Frag} {mg : Str → Option Value} {F : Hp} : ∀ {ds : List Pd} {xs : List V}, DsL F ds xs → RpL K mg F (ds.map .dat) xs
  | [], _, h => h
  | _ :: _, _, ⟨x, r, e, h, t⟩ => ⟨x, r, e, h, DsL.rpl t⟩
theorem DpL.rpl {K : PySem.W.Frag} {mg : Str → Option Value} {F : Hp} : ∀ {ds : List Pd} {xs : List V}, DpAll K F xs ds → RpL K mg F (ds.map kw) xs
  | [], _, h => by cases h; rfl
  | _ :: _, _, h => by cases h with | cons h1 t => exact ⟨_, _, rfl, dp_kw h1, DpL.rpl t⟩
theorem sqT_mono {K : PySem.W.Frag} {F H : Hp} (s : Sub F H) {a : Addr} {xs : List V} (h : SqT K F a xs) : SqT K H a xs := by
  rcases h with h | h
  · exact .inl (rdM s h)
  · exact .inr h
theorem vg_tup {es : List Expr} {kk n : Nat} {pos : Pos} {sl : List Nat} {t : List W → Rho → R Rho} (hc : X.calm = true) (h : VGs X es sl t) (hn : (assignEach es X.env).length = n := by rfl) (hst : (assignEach es X.env).findIdx? (·.1) = none := by rfl) :
    VG X (.Tuple es kk pos) sl (tupG n t) := PG.imp (pg_tup hc h hn hst) fun v σ H Q ⟨B, ρ, F, w, k, r, q⟩ => by
  unfold tupG at q
  split at q
  · rename_i ds
    obtain ⟨hl, q⟩ := run_if q
    obtain ⟨a, xs, rfl, h1, h2⟩ := r
    exact ⟨a, xs, rfl, .of (k.sub _ _ h1), by rw [h2.len]; exact hl, B, ρ, F, _, k, h2.rpl, q⟩
  · rename_i ds
    obtain ⟨hl, q⟩ := run_if q
    cases r with
    | @tup a xs ds h1 h2 => exact ⟨a, xs, rfl, sqT_mono k.sub h1, by rw [DpL.len h2]; exact hl, B, ρ, F, _, k, DpL.rpl h2, q⟩
  · exact q.elim
def noEx {α : Type} : R α → R α
  | .ok a => .ok a
  | _ => .no
theorem noEx_run {α β : Type} {m : R α} {k : α → R β} {ok : β → Prop} {ex : Str → Prop} (h : run ((noEx m).bind k) ok ex) : ∃ a, m = .ok a ∧ run (k a) ok ex := by
  cases m with
  | no => exact h.elim
  | ex c => exact h.elim
  | ok a => exact ⟨a, rfl, h⟩
def gAsg (t : W → Rho → R Rho) (f : Rho → R W) : Rho → R Out := fun ρ => (f ρ).bind fun w => (noEx (t w ρ)).bind fun ρ' => .ok (.nx ρ')
theorem vs_asg {tg e : Expr} {pos : Pos} {sl : List Nat} {t : W → Rho → R Rho} {f : Rho → R W} (h : VE X U e f) (hg : VG X tg sl t) (hs : swapsWithSole [tg] e pos.line X.env = pure false := by rfl) (hw : swappedStores [tg] e X.env = pure none := by rfl) (h1 : (assignEach [tg] X.env).map (·.2) = [assign tg X.env] := by rfl) : VS X U (.Assign [tg] e pos) (gAsg t f) := PS.imp (ps_asg h hg hs hw h1) fun D σ H ⟨B, ρ, F, k, q⟩ => by
  unfold gAsg at q
  rw [run_bind] at q
  refine ⟨B, ρ, F, k, run_mono q (fun w _ q v F' H' e r => ?_) fun c q => ex_of k q⟩
  obtain ⟨ρ', z, q⟩ := noEx_run q
  refine ⟨B, ρ, F', w, k.ext e, r, ?_⟩
  rw [z]
  exact fun σ' k' _ _ => q F' σ' H' k'
end
end Vd

/-! Val7: iterators, for, while, comprehensions. -/
namespace Vd
open L2 PyProof.Rows PySem PySem.Spec
section
variable {X : Cx} {U : WX}
/-- J walks over ws, while what is frozen in F stays -/
def Wk (X : Cx) (J : It) (ws : List W) (F : Hp) : Prop := ∀ i H, Sub F H →
  (∀ w, ws[i]? = some w → J.go i H ∧ ∀ x H' F1, Sub F F1 → Sub F1 H → J.yld i H x H' → ∃ F2, Ext F1 H F2 H' ∧ RpW X.K X.mg F2 w x) ∧ (ws.length ≤ i → J.stop i H)
def VI (X : Cx) (U : WX) (tg iter : Expr) (f : Rho → R (List W)) : Prop := PI X tg iter (fun σ H R => ∃ B ρ F, EnvOk X.K X.mg B ρ F σ H ∧
  run (f ρ) (fun ws => ∀ J F' H', Ext F H F' H' → Wk X J ws F' → R J H') (fun c => ∀ C H', X.mg c = some (.ref C) → Sub H H' → U (.ref C) none σ H'))
theorem PI.imp {X : Cx} {tg e : Expr} {t t' : TI} (h : PI X tg e t) (i : ∀ σ H R, t' σ H R → t σ H R) : PI X tg e t' := ⟨fun pins s σ H R I q => h.run pins s σ H R I (i _ _ _ q)⟩
theorem PI.or {X : Cx} {tg e : Expr} {t u : TI} (h : PI X tg e t) (k : PI X tg e u) : PI X tg e (fun σ H R => t σ H R ∨ u σ H R) := ⟨fun pins s σ H R I q => q.elim (h.run pins s σ H R I) (k.run pins s σ H R I)⟩
/-! ### keys as data -/
def keyP : Key → Pd
  | .inl i => .int i
  | .inr x => .str x
def keyTP (ks : List Key) : Pd := .tuple (ks.map keyP)
theorem ds_key {F : Hp} (k : Key) (v : V) : Ds F (keyP k) v ↔ v = kV k := by
  cases k with
  | inl i => exact Iff.rfl
  | inr x => exact Iff.rfl
/-- what a value is worth, walked -/
def items : W → R (List W)
  | .dat (.list ds) => .ok (ds.map .dat)
  | .dat (.tuple ds) => .ok (ds.map .dat)
  | .kdat (.list ds) => .ok (ds.map kw)
  | .kdat (.tuple ds) => .ok (ds.map kw)
  | .dat (.str x) => .ok (x.cps.toList.map fun c => .dat (.str (S [c])))
  | .dK kvs => .ok (kvs.map fun p => .dat (keyP p.1))
  | .dT kvs => .ok (kvs.map fun p => .dat (keyTP p.1))
  | _ => .no
def iVal (f : Rho → R W) : Rho → R (List W) := fun ρ => (f ρ).bind items
theorem wk_list {F : Hp} {a : Addr} {xs : List V} {ws : List W} (h : SqL X.K F a xs) (r : RpL X.K X.mg F ws xs) : Wk X (Itl X.K a) ws F := fun i H s => by
  have hs : SqL X.K H a xs := L2.Same.seq s h
  refine ⟨fun w e => ?_, fun e => ⟨xs, hs, by rw [r.len]; exact e⟩⟩
  obtain ⟨x, e1, e2⟩ := r.get e
  refine ⟨⟨xs, x, hs, e1⟩, fun y H' F1 s1 s2 ⟨e3, e4⟩ => ?_⟩
  subst e3
  have := e4 xs hs
  rw [e1] at this; cases this
  exact ⟨F1, .refl s2, e2.mono s1⟩
theorem wk_tup {F : Hp} {a : Addr} {xs : List V} {ws : List W} (h : SqT X.K F a xs) (r : RpL X.K X.mg F ws xs) : Wk X (Itt X.K a) ws F := fun i H s => by
  have hs : SqT X.K H a xs := sqT_mono s h
  refine ⟨fun w e => ?_, fun e => ⟨xs, hs, by rw [r.len]; exact e⟩⟩
  obtain ⟨x, e1, e2⟩ := r.get e
  refine ⟨⟨xs, x, hs, e1⟩, fun y H' F1 s1 s2 ⟨e3, e4⟩ => ?_⟩
  subst e3
  have := e4 xs hs
  rw [e1] at this; cases this
  exact ⟨F1, .refl s2, e2.mono s1⟩
theorem it_list {pins : List (Addr × Obj)} {σ : L2.St} {H1 : Hp} {s1 : Shared} {tg : Expr} {R : It → Hp → Prop} {a : Addr} {xs : List V} (I1 : Inv X pins σ H1 s1) (hq : SqL X.K H1 a xs) (q : R (Itl X.K a) H1) :
    wpAny (model X.prog X.w) X.A (pyIter (.ref a)) (PIE X pins σ tg R) X.xe s1 := by
  obtain ⟨its, rv, p, hz⟩ := I1.list hq
  refine wpAny_pyIter_list p.isList ?_
  refine ⟨s1.heap.objs.size, [s1.heap.objs.size], _, _, H1, rfl, I1.kept (t' := s1.toks) fun b o e => Heap.get?_push_of_some _ e, turn_list a _, ⟨_, Heap.get?_push_size _ rfl, rfl, rfl⟩, fun b hb => ?_, q⟩
  have e : b = s1.heap.objs.size := by simpa using hb
  subst e
  exact I1.fpOk (Nat.le_refl _) (I1.hok.fresh (Nat.le_refl _))
theorem it_tuple {pins : List (Addr × Obj)} {σ : L2.St} {H1 : Hp} {s1 : Shared} {tg : Expr} {R : It → Hp → Prop} {a : Addr} {xs : List V} (I1 : Inv X pins σ H1 s1) (hq : SqT X.K H1 a xs) (q : R (Itt X.K a) H1) :
    wpAny (model X.prog X.w) X.A (pyIter (.ref a)) (PIE X pins σ tg R) X.xe s1 := by
  obtain ⟨its, rv, p, hz⟩ := I1.tuple hq
  refine wpAny_pyIter_tuple (show s1.heap.IsTuple a its.toArray from p) ?_
  refine ⟨s1.heap.objs.size, [s1.heap.objs.size], _, _, H1, rfl, I1.kept (t' := s1.toks) fun b o e => Heap.get?_push_of_some _ e, turn_tuple a _, ⟨_, Heap.get?_push_size _ rfl, rfl, rfl⟩, fun b hb => ?_, q⟩
  have e : b = s1.heap.objs.size := by simpa using hb
  subst e
  exact I1.fpOk (Nat.le_refl _) (I1.hok.fresh (Nat.le_refl _))
theorem it_str {pins : List (Addr × Obj)} {σ : L2.St} {H1 : Hp} {s1 : Shared} {tg : Expr} {R : It → Hp → Prop} {x : Str} {t : Tok} (I1 : Inv X pins σ H1 s1) (q : R (Its x) H1) :
    wpAny (model X.prog X.w) X.A (pyIter (.str x t)) (PIE X pins σ tg R) X.xe s1 := by
  cases ha : x.cps.all (· < 128)
  · exact wpAny_pyIter_wide ha (pi_one (tk := s1.toks) I1 _ (turn_str _ x t "str_iterator" (.inr rfl)) ⟨_, Heap.get?_push_size _ rfl, rfl, rfl⟩ q)
  · exact wpAny_pyIter_ascii ha (pi_one (tk := s1.toks) I1 _ (turn_str _ x t "str_ascii_iterator" (.inl rfl)) ⟨_, Heap.get?_push_size _ rfl, rfl, rfl⟩ q)
theorem KvP.nth {κ : Type} {F : Hp} {kvs : List (κ × Pd)} {ks : List (κ × V)} (h : KvP F kvs ks) {i : Nat} {k : κ} {v : V} (e : ks[i]? = some (k, v)) : ∃ d, kvs[i]? = some (k, d) := by
  have h1 : (kvs.map (·.1))[i]? = some k := by rw [← h.1, List.getElem?_map, e]; rfl
  rw [List.getElem?_map] at h1
  cases z : kvs[i]? with
  | none => rw [z] at h1; cases h1
  | some p => rw [z] at h1; cases h1; exact ⟨p.2, rfl⟩
theorem wk_keysK {F : Hp} {d : Addr} {o : Obj} {ks : List (Key × V)} {kvs : List (Key × Pd)} (h : F d = some (.frz o (.dK ks))) (r : KvP F kvs ks) : Wk X (Itk d o ks) (kvs.map fun p => .dat (keyP p.1)) F := fun i H s => by
  refine ⟨fun w e => ?_, fun e => ⟨s _ _ h, by rw [r.len]; simpa using e⟩⟩
  rw [List.getElem?_map] at e
  cases y : kvs[i]? with
  | none => rw [y] at e; cases e
  | some p =>
    rw [y] at e; cases e
    have hi := (List.getElem?_eq_some_iff.mp y).1
    refine ⟨⟨s _ _ h, by rw [r.len]; exact hi⟩, fun x H' F1 s1 s2 ⟨e3, k, v, e4, e5⟩ => ?_⟩
    subst e3 e5
    obtain ⟨dd, e6⟩ := r.nth e4
    rw [y] at e6; cases e6
    exact ⟨F1, .refl s2, (ds_key _ _).mpr rfl⟩
theorem wk_keysT {F : Hp} {d : Addr} {o : Obj} {ks : List (List Key × V)} {kvs : List (List Key × Pd)} (h : F d = some (.frz o (.dT ks))) (r : KvP F kvs ks) : Wk X (Itkt d o ks) (kvs.map fun p => .dat (keyTP p.1)) F := fun i H s => by
  refine ⟨fun w e => ?_, fun e => ⟨s _ _ h, by rw [r.len]; simpa using e⟩⟩
  rw [List.getElem?_map] at e
  cases y : kvs[i]? with
  | none => rw [y] at e; cases e
  | some p =>
    rw [y] at e; cases e
    have hi := (List.getElem?_eq_some_iff.mp y).1
    refine ⟨⟨s _ _ h, by rw [r.len]; exact hi⟩, fun x H' F1 s1 s2 ⟨e3, k, v, b, e4, e5, e7⟩ => ?_⟩
    subst e3 e5
    obtain ⟨dd, e6⟩ := r.nth e4
    rw [y] at e6; cases e6
    refine ⟨upd F1 b (.tup (k.map kV)), ⟨fun a u e => ?_, .refl _, fun a u e => ?_, fun a e => ?_⟩, b, _, rfl, upd_same, (DsL.map (f := keyP) (g := kV) ds_key).mpr rfl⟩
    · by_cases c : a = b
      · subst c; rw [s2 _ _ e] at e7; cases e7; rw [upd_same]
      · rw [upd_ne c]; exact e
    · by_cases c : a = b
      · subst c; rw [upd_same] at e; cases e; exact e7
      · rw [upd_ne c] at e; exact s2 _ _ e
    · by_cases c : a = b
      · subst c; exact .inr (.inr ⟨_, e7⟩)
      · rw [upd_ne c] at e; exact .inl e
def itemsV : W → R (List W)
  | .dK _ => .no
  | .dT _ => .no
  | w => items w
theorem vi_val0 {tg e : Expr} {f : Rho → R W} (h : VE X U e f) : VI X U tg e (fun ρ => (f ρ).bind itemsV) := by
  refine PI.imp (t := fun σ H R => tE X U f σ H fun x H1 => (∃ a, x = .ref a ∧ (∃ xs, SqL X.K H1 a xs) ∧ R (Itl X.K a) H1) ∨ (∃ a, x = .ref a ∧ (∃ xs, SqT X.K H1 a xs) ∧ R (Itt X.K a) H1) ∨ ∃ z, x = .str z ∧ R (Its z) H1) ?_ fun σ H R ⟨B, ρ, F, k, q⟩ => ?_
  · -- the three ways, behind one reading of e
    refine ⟨fun pins s σ H R I q => ?_⟩
    refine thn (h.run pins s σ H _ I q) fun v s1 ⟨x, H1, I1, r1, q1⟩ => ?_
    rcases q1 with ⟨a, rfl, ⟨xs, hq⟩, q⟩ | ⟨a, rfl, ⟨xs, hq⟩, q⟩ | ⟨z, rfl, q⟩
    · cases r1; exact it_list I1 hq q
    · cases r1; exact it_tuple I1 hq q
    · obtain ⟨t, rfl⟩ := r1; exact it_str I1 q
  · rw [run_bind] at q
    refine ⟨B, ρ, F, k, run_mono q (fun w _ q v F1 H1 e1 r1 => ?_) fun _ q => q⟩
    unfold itemsV at q
    split at q
    · exact q.elim
    · exact q.elim
    rename_i nk nt
    unfold items at q
    split at q
    · rename_i ds
      obtain ⟨a, xs, rfl, h1, h2⟩ := r1
      exact .inl ⟨a, rfl, ⟨xs, .of (e1.sub _ _ h1)⟩, q _ F1 H1 e1 (wk_list (.of h1) h2.rpl)⟩
    · rename_i ds
      obtain ⟨a, xs, rfl, h1, h2⟩ := r1
      exact .inr (.inl ⟨a, rfl, ⟨xs, .of (e1.sub _ _ h1)⟩, q _ F1 H1 e1 (wk_tup (.of h1) h2.rpl)⟩)
    · rename_i ds
      cases r1 with
      | @lst a xs ds h1 h2 => exact .inl ⟨a, rfl, ⟨xs, L2.Same.seq e1.sub h1⟩, q _ F1 H1 e1 (wk_list h1 (DpL.rpl h2))⟩
    · rename_i ds
      cases r1 with
      | @tup a xs ds h1 h2 => exact .inr (.inl ⟨a, rfl, ⟨xs, sqT_mono e1.sub h1⟩, q _ F1 H1 e1 (wk_tup h1 (DpL.rpl h2))⟩)
    · rename_i z _
      refine .inr (.inr ⟨z, r1, q _ F1 H1 e1 fun i H s => ⟨fun w e => ?_, fun e => show z.cps.size ≤ i by simpa using e⟩⟩)
      rw [List.getElem?_map] at e
      cases y : z.cps.toList[i]? with
      | none => rw [y] at e; cases e
      | some c =>
        rw [y] at e; cases e
        have hi : i < z.cps.size := by
          have := (List.getElem?_eq_some_iff.mp y).1
          simpa using this
        refine ⟨hi, fun x H' F1 s1 s2 ⟨e3, c', e4, e5⟩ => ?_⟩
        subst e3
        refine ⟨F1, .refl s2, ?_⟩
        rw [e5]
        have : c' = c := by
          have e6 : z.cps.toList[i]? = some c' := by simpa using e4
          rw [y] at e6; cases e6; rfl
        rw [this]; rfl
    · exact (nk _ rfl).elim
    · exact (nt _ rfl).elim
    · exact q.elim
theorem vi_val {tg e : Expr} {f : Rho → R W} (h : VE X U e f) : VI X U tg e (iVal f) := PI.imp (PI.or (vi_val0 (tg := tg) h) (pi_keys (tg := tg) h)) fun σ H R ⟨B, ρ, F, k, q⟩ => by
  by_cases c : ∃ w, f ρ = .ok w ∧ ∃ kvs, w = .dK kvs ∨ ∃ kvs, w = .dT kvs
  · obtain ⟨w, ew, _, c⟩ := c
    refine .inr ⟨B, ρ, F, k, ?_⟩
    unfold iVal at q
    rw [ew] at q ⊢
    intro v F1 H1 e1 r1
    rcases c with rfl | ⟨_, rfl⟩
    · obtain ⟨a, u, ks, rfl, h1, h2⟩ := r1
      exact ⟨a, u, rfl, .inl ⟨ks, e1.sub _ _ h1, q _ F1 H1 e1 (wk_keysK h1 h2)⟩⟩
    · obtain ⟨a, u, ks, rfl, h1, h2⟩ := r1
      exact ⟨a, u, rfl, .inr ⟨ks, e1.sub _ _ h1, q _ F1 H1 e1 (wk_keysT h1 h2)⟩⟩
  · refine .inl ⟨B, ρ, F, k, ?_⟩
    unfold iVal at q
    show run ((f ρ).bind itemsV) _ _
    cases z : f ρ with
    | no => rw [z] at q; exact q
    | ex c => rw [z] at q; exact q
    | ok w =>
      rw [z] at q
      have : itemsV w = items w := by
        cases w with
        | dK kvs => exact (c ⟨_, z, kvs, .inl rfl⟩).elim
        | dT kvs => exact (c ⟨_, z, [], .inr ⟨kvs, rfl⟩⟩).elim
        | dat d => rfl
        | kdat d => rfl
        | fn x => rfl
        | obj c fs => rfl
      show run (itemsV w) _ _
      rw [this]
      exact q
/-! ### ranges -/
def bnd (i : Int) : Prop := -(2 ^ 62) ≤ i ∧ i < 2 ^ 62
noncomputable instance (i : Int) : Decidable (bnd i) := Classical.propDecidable _
def rangeD (lo : Int) (n : Nat) : List W := (List.range n).map fun k => wI (lo + (k : Nat))
noncomputable def rng1 : List W → R (List W)
  | [.dat (.int j)] => if bnd j then .ok (rangeD 0 j.toNat) else .no
  | _ => .no
noncomputable def rng2 : List W → R (List W)
  | [.dat (.int i), .dat (.int j)] => if bnd i ∧ bnd j then .ok (rangeD i (j - i).toNat) else .no
  | _ => .no
def iL (h : List W → R (List W)) (t : Rho → R (List W)) : Rho → R (List W) := fun ρ => (t ρ).bind h
theorem wk_rng {F : Hp} {lo : Int} {n : Nat} : Wk X (Itr lo n) (rangeD lo n) F := fun i H s => by
  refine ⟨fun w e => ?_, fun e => show n ≤ i by simpa [rangeD] using e⟩
  unfold rangeD at e
  rw [List.getElem?_map] at e
  cases y : (List.range n)[i]? with
  | none => rw [y] at e; cases e
  | some c =>
    rw [y] at e; cases e
    obtain ⟨h1, h2⟩ := List.getElem?_eq_some_iff.mp y
    rw [List.getElem_range] at h2
    subst h2
    refine ⟨show i < n by simpa using h1, fun x H' F1 s1 s2 ⟨e3, e4⟩ => ?_⟩
    subst e3
    exact ⟨F1, .refl s2, e4⟩
theorem vi_rng1 {tg a : Expr} {p pos : Pos} {t : Rho → R (List W)} (hm : X.mg "range" = none) (ha : VAB X U [a] t) (hg : Gl X "range" := by rfl) (hs : starEach [a] X.env = [(false, eval a X.env)] := by rfl) :
    VI X U tg (.Call (.Name "range" p) [a] [] pos) (iL rng1 t) := PI.imp (pi_range1 hg hm ha hs) fun σ H R ⟨B, ρ, F, k, q⟩ => by
  unfold iL at q
  rw [run_bind] at q
  refine ⟨B, ρ, F, k, run_mono q (fun ws _ q vs F1 H1 e1 r1 => ?_) fun _ q => q⟩
  unfold rng1 at q
  split at q
  · obtain ⟨hl, q⟩ := run_if q
    obtain ⟨v, r, rfl, r2, r3⟩ := r1
    cases r3
    exact ⟨_, by rw [show v = _ from r2], hl.1, hl.2, q _ F1 H1 e1 wk_rng⟩
  · exact q.elim
theorem vi_rng2 {tg a b : Expr} {p pos : Pos} {t : Rho → R (List W)} (hm : X.mg "range" = none) (ha : VAB X U [a, b] t) (hg : Gl X "range" := by rfl) (hs : starEach [a, b] X.env = [(false, eval a X.env), (false, eval b X.env)] := by rfl)
    (hs2 : starEach [b] X.env = [(false, eval b X.env)] := by rfl) : VI X U tg (.Call (.Name "range" p) [a, b] [] pos) (iL rng2 t) := PI.imp (pi_range2 hg hm ha hs hs2) fun σ H R ⟨B, ρ, F, k, q⟩ => by
  unfold iL at q
  rw [run_bind] at q
  refine ⟨B, ρ, F, k, run_mono q (fun ws _ q vs F1 H1 e1 r1 => ?_) fun _ q => q⟩
  unfold rng2 at q
  split at q
  · obtain ⟨hl, q⟩ := run_if q
    obtain ⟨v, r, rfl, r2, v', r', rfl, r4, r3⟩ := r1
    cases r3
    exact ⟨_, _, by rw [show v = _ from r2, show v' = _ from r4], ⟨hl.1.1, hl.1.2, hl.2.1, hl.2.2⟩, q _ F1 H1 e1 wk_rng⟩
  · exact q.elim
/-- enumerate(list) -/
def enumD : Nat → List Pd → List W
  | _, [] => []
  | i, d :: ds => .dat (.tuple [.int (i : Nat), d]) :: enumD (i + 1) ds
theorem enumD_len : ∀ (i : Nat) (ds : List Pd), (enumD i ds).length = ds.length
  | _, [] => rfl
  | i, d :: ds => by unfold enumD; simp [enumD_len (i + 1) ds]
theorem enumD_get : ∀ (i j : Nat) (ds : List Pd), (enumD i ds)[j]? = (ds[j]?).map fun d => .dat (.tuple [.int ((i + j : Nat) : Int), d])
  | _, _, [] => by simp [enumD]
  | i, 0, d :: ds => by simp [enumD]
  | i, j + 1, d :: ds => by
    unfold enumD
    rw [List.getElem?_cons_succ, enumD_get (i + 1) j ds, List.getElem?_cons_succ, show i + 1 + j = i + (j + 1) by omega]
def enum1 : List W → R (List W)
  | [.dat (.list ds)] => .ok (enumD 0 ds)
  | _ => .no
theorem wk_enum {F : Hp} {a : Addr} {xs : List V} {ds : List Pd} (h : F a = some (.lst xs)) (r : DsL F ds xs) : Wk X (Ite X.K a) (enumD 0 ds) F := fun i H s => by
  have hs : SqL X.K H a xs := .of (s _ _ h)
  refine ⟨fun w e => ?_, fun e => ⟨xs, hs, by rw [r.len]; simpa [enumD_len] using e⟩⟩
  rw [enumD_get] at e
  cases y : ds[i]? with
  | none => rw [y] at e; cases e
  | some d =>
    rw [y] at e; cases e
    obtain ⟨x, e1, e2⟩ := r.get y
    refine ⟨⟨xs, x, hs, e1⟩, fun v H' F1 s1 s2 ⟨T, x', e3, e4, e5, e6⟩ => ?_⟩
    subst e5 e3
    have := e6 xs hs
    rw [e1] at this; cases this
    refine ⟨_, .new s2 e4, T, _, rfl, upd_same, .int (i : Nat), [x], rfl, ?_, x, [], rfl, Ds.mono (s1.trans (.upd (s2.nn e4))) _ _ e2, rfl⟩
    show V.int _ = V.int _
    rw [Nat.zero_add]
theorem vi_enum {e : Expr} {elts : List Expr} {kk : Nat} {p pos tpos : Pos} {t : Rho → R (List W)} (hm : X.mg "enumerate" = none) (ha : VA X U [e] t) (hg : Gl X "enumerate" := by rfl) (hs : starEach [e] X.env = [(false, eval e X.env)] := by rfl) :
    VI X U (.Tuple elts kk tpos) (.Call (.Name "enumerate" p) [e] [] pos) (iL enum1 t) := PI.imp (pi_enum hg hm ha hs) fun σ H R ⟨B, ρ, F, k, q⟩ => by
  unfold iL at q
  rw [run_bind] at q
  refine ⟨B, ρ, F, k, run_mono q (fun ws _ q vs F1 H1 e1 r1 => ?_) fun _ q => q⟩
  unfold enum1 at q
  split at q
  · obtain ⟨v, r, rfl, ⟨a, xs, rfl, h1, h2⟩, r3⟩ := r1
    cases r3
    exact ⟨a, xs, rfl, .of (e1.sub _ _ h1), q _ F1 H1 e1 (wk_enum h1 h2)⟩
  · exact q.elim
/-- zip of two lists -/
def zipD : List Pd → List Pd → List W
  | d :: ds, e :: es => .dat (.tuple [d, e]) :: zipD ds es
  | _, _ => []
theorem zipD_get : ∀ (j : Nat) (ds es : List Pd), (zipD ds es)[j]? = (ds[j]?).bind fun d => (es[j]?).map fun e => .dat (.tuple [d, e])
  | _, [], _ => by simp [zipD]
  | j, d :: ds, [] => by simp [zipD]
  | 0, d :: ds, e :: es => by simp [zipD]
  | j + 1, d :: ds, e :: es => by
    unfold zipD
    rw [List.getElem?_cons_succ, zipD_get j ds es]; simp
theorem zipD_len : ∀ (ds es : List Pd), (zipD ds es).length = min ds.length es.length
  | [], _ => by simp [zipD]
  | d :: ds, [] => by simp [zipD]
  | d :: ds, e :: es => by unfold zipD; simp [zipD_len ds es, Nat.succ_min_succ]
def zip2 : List W → R (List W)
  | [.dat (.list ds), .dat (.list es)] => .ok (zipD ds es)
  | _ => .no
theorem wk_zip {F : Hp} {a b : Addr} {xs ys : List V} {ds es : List Pd} (h : F a = some (.lst xs)) (r : DsL F ds xs) (h' : F b = some (.lst ys)) (r' : DsL F es ys) : Wk X (Itz X.K a b) (zipD ds es) F := fun i H s => by
  have hs : SqL X.K H a xs := .of (s _ _ h)
  have hs' : SqL X.K H b ys := .of (s _ _ h')
  refine ⟨fun w e => ?_, fun e => ⟨xs, ys, hs, hs', ?_⟩⟩
  · rw [zipD_get] at e
    cases y : ds[i]? with
    | none => rw [y] at e; cases e
    | some d =>
      cases y' : es[i]? with
      | none => rw [y, y'] at e; cases e
      | some d' =>
        rw [y, y'] at e; cases e
        obtain ⟨x, e1, e2⟩ := r.get y
        obtain ⟨x', e1', e2'⟩ := r'.get y'
        refine ⟨⟨xs, ys, x, x', hs, hs', e1, e1'⟩, fun v H' F1 s1 s2 ⟨T, z, z', e3, e4, e5, e6, e7⟩ => ?_⟩
        subst e5 e3
        have := e6 xs hs
        rw [e1] at this; cases this
        have := e7 ys hs'
        rw [e1'] at this; cases this
        have m := s1.trans (Sub.upd (o := .tup [x, x']) (s2.nn e4))
        exact ⟨_, .new s2 e4, T, _, rfl, upd_same, x, [x'], rfl, Ds.mono m _ _ e2, x', [], rfl, Ds.mono m _ _ e2', rfl⟩
  · rw [zipD_len] at e
    rw [r.len, r'.len]; omega
theorem vi_zip {e e2 : Expr} {elts : List Expr} {kk : Nat} {p pos tpos : Pos} {t : Rho → R (List W)} (hm : X.mg "zip" = none) (ha : VA X U [e, e2] t) (hg : Gl X "zip" := by rfl)
    (hs : starEach [e, e2] X.env = (false, eval e X.env) :: starEach [e2] X.env := by rfl) (hpl : (backTo pos (starEach [e2] X.env)).any (·.1) = false := by rfl) :
    VI X U (.Tuple elts kk tpos) (.Call (.Name "zip" p) [e, e2] [] pos) (iL zip2 t) := PI.imp (pi_zip hg hm ha hs hpl) fun σ H R ⟨B, ρ, F, k, q⟩ => by
  unfold iL at q
  rw [run_bind] at q
  refine ⟨B, ρ, F, k, run_mono q (fun ws _ q vs F1 H1 e1 r1 => ?_) fun _ q => q⟩
  unfold zip2 at q
  split at q
  · obtain ⟨v, r, rfl, ⟨a, xs, rfl, h1, h2⟩, v', r', rfl, ⟨a', xs', rfl, h1', h2'⟩, r3⟩ := r1
    cases r3
    exact ⟨a, a', xs, xs', rfl, .of (e1.sub _ _ h1), .of (e1.sub _ _ h1'), q _ F1 H1 e1 (wk_zip h1 h2 h1' h2')⟩
  · exact q.elim
/-! ### for -/
def forS (t : W → Rho → R Rho) (g : Rho → R Out) : List W → Rho → R Out
  | [], ρ => .ok (.nx ρ)
  | w :: ws, ρ => (noEx (t w ρ)).bind fun ρ1 => (g ρ1).bind fun
    | .nx ρ2 => forS t g ws ρ2
    | .rt v => .ok (.rt v)
    | .ro v ρ' => .ok (.ro v ρ')
    | .rn c fs => .ok (.rn c fs)
def gFor (f : Rho → R (List W)) (t : W → Rho → R Rho) (g : Rho → R Out) : Rho → R Out := fun ρ => (f ρ).bind fun ws => forS t g ws ρ
theorem vs_for {tg iter : Expr} {body : List Stmt} {pos : Pos} {f : Rho → R (List W)} {sl : List Nat} {t : W → Rho → R Rho} {g : Rho → R Out} (hp : PassesOwn (model X.prog X.w) X.A X.env X.xe) (hc : X.calm = true)
    (hi : VI X U tg iter f) (ht : VG X tg sl t) (hb : VSs X U body g) (hs : ∀ x, foldedSetIterable iter X.env x = pure x := by intro _; rfl) : VS X U (.For tg iter body [] pos) (gFor f t g) := PS.imp (ps_for hp hc hi ht hb hs) fun D σ H ⟨B, ρ, F, k, q⟩ => by
  unfold gFor at q
  rw [run_bind] at q
  refine ⟨B, ρ, F, k, run_mono q (fun ws _ q J F1 H1 e1 wk => ?_) fun c q => ex_of k q⟩
  refine ⟨fun i m σ H => m = ws.length - i ∧ i ≤ ws.length ∧ ∃ ρi Fi, EnvOk X.K X.mg B ρi Fi σ H ∧ Sub F1 Fi ∧ run (forS t g (ws.drop i) ρi) (pOut X B D) (pEx X U B),
    ⟨ws.length, by omega, Nat.zero_le _, ρ, F1, k.ext e1, .refl _, by simpa using q⟩, fun i m σ H hW => ?_⟩
  obtain ⟨rfl, hle, ρi, Fi, ki, si, qi⟩ := hW
  obtain ⟨w1, w2⟩ := wk i H (si.trans ki.sub)
  by_cases hlt : i < ws.length
  · obtain ⟨go, yl⟩ := w1 ws[i] (by simp [hlt])
    refine .inr ⟨go, fun σ' H' => ∃ ρn Fn, EnvOk X.K X.mg B ρn Fn σ' H' ∧ Sub F1 Fn ∧ run (forS t g (ws.drop (i + 1)) ρn) (pOut X B D) (pEx X U B), fun σ' H' ⟨ρn, Fn, kn, sn, qn⟩ => ⟨ws.length - (i + 1), by omega, rfl, hlt, ρn, Fn, kn, sn, qn⟩, fun x H' hy => ?_⟩
    obtain ⟨F2, e2, r2⟩ := yl x H' Fi si ki.sub hy
    rw [List.drop_eq_getElem_cons hlt] at qi
    unfold forS at qi
    obtain ⟨ρ1, z, qi⟩ := noEx_run qi
    have k2 := (ki.ext e2)
    refine ⟨⟨F2, B.H0, B.n⟩, ρi, F2, ws[i], k2.rebase, r2, ?_⟩
    rw [z]
    intro σ' k3 _ _
    rw [run_bind] at qi
    refine ⟨⟨F2, B.H0, B.n⟩, ρ1, F2, k3, run_mono qi (fun o _ q => ?_) fun _ q => q⟩
    cases o with
    | nx ρ2 =>
      intro F3 σ3 H3 k4
      exact ⟨ρ2, F3, k2.back k4, (si.trans e2.ff).trans k4.f0, q⟩
    | rt w => exact fun v F3 H3 e3 r3 => q v F3 H3 (k2.backE e3) r3
    | ro w ρ' => exact fun v F3 σ3 H3 k3 r3 => q v F3 σ3 H3 (k2.back k3) r3
    | rn c fs => exact fun b fp F3 H3 e3 r3 hn => q b fp F3 H3 (k2.backE e3) r3 hn
  · have e : i = ws.length := by omega
    subst e
    refine .inl ⟨w2 (Nat.le_refl _), ?_⟩
    rw [List.drop_length] at qi
    exact qi Fi σ H ki
/-! ### while -/
def whileS (c : Rho → R Bool) (g : Rho → R Out) : Nat → Rho → R Out
  | 0, _ => .no
  | n + 1, ρ => (c ρ).bind fun b => if b = true then (g ρ).bind fun
    | .nx ρ2 => whileS c g n ρ2
    | .rt v => .ok (.rt v)
    | .ro v ρ' => .ok (.ro v ρ')
    | .rn c fs => .ok (.rn c fs)
    else .ok (.nx ρ)
open Classical in
noncomputable def gWhile (c : Rho → R Bool) (g : Rho → R Out) : Rho → R Out := fun ρ => if h : ∃ n, whileS c g n ρ ≠ .no then whileS c g (Classical.choose h) ρ else .no
theorem whileS_mono {c : Rho → R Bool} {g : Rho → R Out} : ∀ {n m : Nat} {ρ : Rho}, n ≤ m → whileS c g n ρ ≠ .no → whileS c g m ρ = whileS c g n ρ
  | 0, _, _, _, h => (h rfl).elim
  | n + 1, 0, _, h, _ => by omega
  | n + 1, m + 1, ρ, hle, h => by
    unfold whileS at h ⊢
    cases z : c ρ with
    | no => rfl
    | ex e => rfl
    | ok b =>
      rw [z] at h
      show (if b = true then _ else _) = (if b = true then _ else _)
      have h : (if b = true then _ else _) ≠ R.no := h
      cases b with
      | false => rfl
      | true =>
        rw [if_pos rfl] at h ⊢
        rw [if_pos rfl]
        cases y : g ρ with
        | no => rfl
        | ex e => rfl
        | ok o =>
          rw [y] at h
          cases o with
          | nx ρ2 => exact whileS_mono (by omega) h
          | rt v => rfl
          | ro v ρ' => rfl
          | rn c fs => rfl
theorem gWhile_of {c : Rho → R Bool} {g : Rho → R Out} {n : Nat} {ρ : Rho} {r : R Out} (h : whileS c g n ρ = r) (hr : r ≠ .no) : gWhile c g ρ = r := by
  have hx : ∃ n, whileS c g n ρ ≠ .no := ⟨n, by rw [h]; exact hr⟩
  unfold gWhile
  rw [dif_pos hx]
  have h2 := Classical.choose_spec hx
  rcases Nat.le_total n (Classical.choose hx) with q | q
  · rw [whileS_mono q (by rw [h]; exact hr), h]
  · rw [← h]; exact (whileS_mono q h2).symm
theorem gWhile_some {c : Rho → R Bool} {g : Rho → R Out} {ρ : Rho} {ok : Out → Prop} {ex : Str → Prop} (h : run (gWhile c g ρ) ok ex) : ∃ n, run (whileS c g n ρ) ok ex := by
  unfold gWhile at h
  split at h
  · exact ⟨_, h⟩
  · exact h.elim
theorem vs_while {c : Expr} {body : List Stmt} {pos : Pos} {t : Rho → R Bool} {g : Rho → R Out} (hp : PassesOwn (model X.prog X.w) X.A X.env X.xe) (hc : VT X U c t) (hb : VSs X U body g) : VS X U (.While c body [] pos) (gWhile t g) :=
  PS.imp (ps_while hp hc hb) fun D σ H ⟨B, ρ, F, k, q⟩ => by
    obtain ⟨n, q⟩ := gWhile_some q
    refine ⟨fun m σ H => ∃ ρ F, EnvOk X.K X.mg B ρ F σ H ∧ run (whileS t g m ρ) (pOut X B D) (pEx X U B), ⟨n, ρ, F, k, q⟩, fun m σ H ⟨ρ, F, k, q⟩ => ?_⟩
    cases m with
    | zero => exact q.elim
    | succ m =>
      unfold whileS at q
      rw [run_bind] at q
      refine ⟨B, ρ, F, k, run_mono q (fun b _ q F1 H1 e1 => ?_) fun c q => ex_of k q⟩
      cases b with
      | false => exact iteF (q F1 σ H1 (k.ext e1))
      | true =>
        rw [if_pos rfl, run_bind] at q
        refine iteT ⟨fun σ' H' => ∃ ρ F, EnvOk X.K X.mg B ρ F σ' H' ∧ run (whileS t g m ρ) (pOut X B D) (pEx X U B), fun σ' H' h => ⟨m, Nat.lt_succ_self _, h⟩, B, ρ, F1, k.ext e1, run_mono q (fun o _ q => ?_) fun _ q => q⟩
        cases o with
        | nx ρ2 => exact fun F3 σ3 H3 k4 => ⟨ρ2, F3, k4, q⟩
        | rt w => exact q
        | ro w ρ' => exact q
        | rn c fs => exact q
end
end Vd

/-! Val8: comprehensions. -/
namespace Vd
open L2 PyProof.Rows PySem PySem.Spec
theorem wipe_get {σ : L2.St} {j : Nat} : ∀ {vs : List Nat}, j ∉ vs → (wipe σ vs)[j]? = σ[j]?
  | [], _ => rfl
  | v :: vs, h => by
    unfold wipe
    rw [List.getElem?_set_ne fun e => h (by simp [e])]
    exact wipe_get fun q => h (List.mem_cons_of_mem _ q)
theorem wipe_in {σ : L2.St} {j : Nat} : ∀ {vs : List Nat}, j ∈ vs → j < σ.length → (wipe σ vs)[j]? = some none
  | v :: vs, h, hl => by
    unfold wipe
    by_cases e : v = j
    · subst e; rw [List.getElem?_set_self (by rw [wipe_length]; exact hl)]
    · rw [List.getElem?_set_ne e]
      exact wipe_in ((List.mem_cons.mp h).resolve_left fun q => e q.symm) hl
theorem wipe_eq {σ σ' : L2.St} {vs : List Nat} (h : ∀ j, j ∉ vs → σ'[j]? = σ[j]?) (hl : σ'.length = σ.length) : wipe σ' vs = wipe σ vs := by
  refine List.ext_getElem? fun j => ?_
  by_cases c : j ∈ vs
  · by_cases d : j < σ.length
    · rw [wipe_in c d, wipe_in c (by omega)]
    · rw [List.getElem?_eq_none (by rw [wipe_length]; omega), List.getElem?_eq_none (by rw [wipe_length]; omega)]
  · rw [wipe_get c, wipe_get c, h j c]
theorem wipe_wipe {σ : L2.St} {vs : List Nat} : wipe (wipe σ vs) vs = wipe σ vs := wipe_eq (fun j h => wipe_get h) (wipe_length _ _)
theorem killAt_out {ρ : Rho} {j : Nat} : ∀ {vs : List Nat}, j ∉ vs → (killAt vs ρ).getD j .un = ρ.getD j .un
  | [], _ => rfl
  | v :: vs, h => by
    unfold killAt
    by_cases c : v < (killAt vs ρ).length
    · rw [getD_set c, if_neg fun e => h (by simp [e])]
      exact killAt_out fun q => h (List.mem_cons_of_mem _ q)
    · rw [List.set_eq_of_length_le (by omega)]
      exact killAt_out fun q => h (List.mem_cons_of_mem _ q)
theorem killAt_in {ρ : Rho} {j : Nat} : ∀ {vs : List Nat}, j ∈ vs → (killAt vs ρ).getD j .un = .un
  | v :: vs, h => by
    unfold killAt
    by_cases c : v < (killAt vs ρ).length
    · rw [getD_set c]
      by_cases e : j = v
      · rw [if_pos e]
      · rw [if_neg e]; exact killAt_in ((List.mem_cons.mp h).resolve_left e)
    · rw [List.set_eq_of_length_le (by omega)]
      by_cases e : j = v
      · rw [e, List.getD_eq_getElem?_getD, List.getElem?_eq_none (by omega)]; rfl
      · exact killAt_in ((List.mem_cons.mp h).resolve_left e)
theorem EnvOk.wipe {K : PySem.W.Frag} {mg : Str → Option Value} {B : Bs} {ρ : Rho} {F H : Hp} {σ : L2.St} (k : EnvOk K mg B ρ F σ H) (vs : List Nat) : EnvOk K mg B (killAt vs ρ) F (L2.wipe σ vs) H := by
  obtain ⟨fp, h1, h2, h3⟩ := (k.killL vs).fp
  refine ⟨k.sub, k.f0, k.h0, k.nw, by rw [wipe_length, killAt_len]; exact k.len, (killAt_len _ _).trans k.lenB, fp, fun i => ?_, h2, h3⟩
  by_cases c : i ∈ vs
  · have := h1 i
    rw [killAt_in c] at this ⊢
    exact this
  · have := h1 i
    rw [wipe_get c]; exact this
def minus (H : Hp) (D : Addr) : Hp := fun a => if a = D then none else H a
theorem minus_self {H : Hp} {D : Addr} : minus H D D = none := by unfold minus; rw [if_pos rfl]
theorem minus_ne {H : Hp} {D a : Addr} (h : a ≠ D) : minus H D a = H a := by unfold minus; rw [if_neg h]
theorem upd_minus {H : Hp} {D : Addr} {o : HO} : upd (minus H D) D o = upd H D o := by
  funext a; unfold upd minus; by_cases c : a = D <;> simp [c]
theorem upd_self {H : Hp} {D : Addr} {o : HO} (h : H D = some o) : upd H D o = H := by
  funext a; unfold upd; by_cases c : a = D <;> simp [c, h]
/-- what came while the new list stood at D -/
theorem Ext.minus {F H F' H' : Hp} {D : Addr} {o : HO} (s : Sub F H) (hD : H D = none) (ho : ∀ xs, o ≠ .tup xs) (e : Ext F (upd H D o) F' H') : Ext F H F' (Vd.minus H' D) := by
  have hF : F' D = none := by
    cases z : F' D with
    | none => rfl
    | some u =>
      rcases e.nw D (by rw [z]; exact fun h => nomatch h) with y | y
      · exact (y (s.nn hD)).elim
      · exact (Ow.not ⟨o, upd_same, ho⟩ y).elim
  refine ⟨e.ff, fun a u q => ?_, fun a u q => ?_, fun a q => ?_⟩
  · have : a ≠ D := ne_of_none q hD
    rw [minus_ne this]
    exact e.hh a u (by rw [upd_ne this]; exact q)
  · have : a ≠ D := ne_of_none q hF
    rw [minus_ne this]; exact e.sub a u q
  · rcases e.nw a q with y | y
    · exact .inl y
    · by_cases c : a = D
      · subst c; exact .inr (.inl hD)
      · unfold New at y; rw [upd_ne c] at y; exact .inr y
def asDat : W → R Pd
  | .dat d => .ok d
  | _ => .no
theorem asDat_run {w : W} {α : Type} {k : Pd → R α} {ok : α → Prop} {ex : Str → Prop} (h : run ((asDat w).bind k) ok ex) : ∃ d, w = .dat d ∧ run (k d) ok ex := by
  cases w with
  | dat d => exact ⟨d, rfl, h⟩
  | kdat _ => exact h.elim
  | dK _ => exact h.elim
  | dT _ => exact h.elim
  | fn _ => exact h.elim
  | obj _ _ => exact h.elim
def lcS (vs : List Nat) (t : W → Rho → R Rho) (c : Rho → R Bool) (f : Rho → R W) : List W → Rho → R (List Pd)
  | [], _ => .ok []
  | w :: ws, ρ => (noEx (t w (killAt vs ρ))).bind fun ρ1 => (noEx (c ρ1)).bind fun b => if b = true then (noEx (f ρ1)).bind fun y => (asDat y).bind fun d => (lcS vs t c f ws ρ).bind fun ds => .ok (d :: ds)
    else lcS vs t c f ws ρ
noncomputable def nLc (i : Rho → R (List W)) (vs : List Nat) (t : W → Rho → R Rho) (c : Rho → R Bool) (f : Rho → R W) : Rho → R OT := fun ρ => (i ρ).bind fun ws => (noEx (lcS vs t c f ws ρ)).bind fun ds => if fits ds.length then .ok (.L ds) else .no
section
variable {X : Cx} {U : WX}
/-- the tests of a comprehension -/
def VC (X : Cx) (ifs : List Expr) (c : Rho → R Bool) : Prop := PTs X ifs (tT X NoU c)
def cYes : Rho → R Bool := fun _ => .ok true
theorem vc_nil : VC X [] cYes := ⟨fun pins s σ H Q I ⟨B, ρ, F, k, q⟩ => pts_nil.run pins s σ H Q I (q F H (.refl k.sub))⟩
theorem vc_one {e : Expr} {c : Rho → R Bool} (h : VT X NoU e c) : VC X [e] c := pts_one h
theorem lc_fin {m : R (List Pd)} {acc : List Pd} {ok : List Pd → Prop} (h : run m (fun ds => ok (acc ++ ds)) (fun _ => False)) : ∃ ds, m = .ok ds ∧ ok (acc ++ ds) := by
  cases m with
  | no => exact h.elim
  | ex c => exact h.elim
  | ok ds => exact ⟨ds, rfl, h⟩
/-- the reading of a comprehension -/
theorem lc_read {g : TG} {tt : TT} {te : TE} {i : Rho → R (List W)} {vs sl : List Nat} {t : W → Rho → R Rho} {c : Rho → R Bool} {f : Rho → R W} {σ : L2.St} {H : Hp} {Q : VK} (hsl : ∀ j ∈ sl, j ∈ vs)
    (hg : ∀ v σ H (Q : L2.St → Hp → Prop), (∃ B ρ F w, EnvOk X.K X.mg B ρ F σ H ∧ RpW X.K X.mg F w v ∧ run (t w ρ) (fun ρ' => ∀ σ', EnvOk X.K X.mg B ρ' F σ' H → (∀ j, j ∉ sl → σ'[j]? = σ[j]?) → σ'.length = σ.length → Q σ' H) (fun _ => False)) → g v σ H Q)
    (ht : ∀ σ H Q, tT X NoU c σ H Q → tt σ H Q) (he : ∀ σ H Q, tE X NoU f σ H Q → te σ H Q)
    (q : tN X U (nLc i vs t c f) σ H Q) : tLc (fun σ H R => ∃ B ρ F, EnvOk X.K X.mg B ρ F σ H ∧
      run (i ρ) (fun ws => ∀ J F' H', Ext F H F' H' → Wk X J ws F' → R J H') (fun c => ∀ C H', X.mg c = some (.ref C) → Sub H H' → U (.ref C) none σ H')) g tt te vs σ H Q := by
  obtain ⟨B, ρ, F, k, q⟩ := q
  unfold nLc at q
  rw [run_bind] at q
  refine ⟨B, ρ, F, k, run_mono q (fun ws _ q J F1 H1 e1 wk D hD => ?_) fun _ q => q⟩
  obtain ⟨dsAll, zAll, q⟩ := noEx_run q
  obtain ⟨hfit, q⟩ := run_if q
  have k1 := k.ext e1
  -- the invariant
  refine ⟨fun i m H => m = ws.length - i ∧ i ≤ ws.length ∧ ∃ Hm Fi acc dacc dr, H = upd Hm D (.lst acc) ∧ Hm D = none ∧ Ext F1 H1 Fi Hm ∧ DsL Fi dacc acc ∧ lcS vs t c f (ws.drop i) ρ = .ok dr ∧ dacc ++ dr = dsAll,
    ⟨ws.length, by omega, Nat.zero_le _, H1, F1, [], [], dsAll, rfl, hD, .refl e1.sub, rfl, by simpa using zAll, rfl⟩, fun i m H hW => ?_⟩
  obtain ⟨rfl, hle, Hm, Fi, acc, dacc, dr, rfl, hmD, em, rep, z, eq⟩ := hW
  have kx : Ext Fi Hm Fi (upd Hm D (.lst acc)) := .newO em.sub hmD
  have kH : EnvOk X.K X.mg B ρ Fi σ (upd Hm D (.lst acc)) := (k1.ext em).ext kx
  obtain ⟨w1, w2⟩ := wk i (upd Hm D (.lst acc)) (em.ff.trans kx.sub)
  by_cases hlt : i < ws.length
  · obtain ⟨go, yl⟩ := w1 ws[i] (by simp [hlt])
    refine .inr ⟨go, fun H' => ∃ Hm Fi acc dacc dr, H' = upd Hm D (.lst acc) ∧ Hm D = none ∧ Ext F1 H1 Fi Hm ∧ DsL Fi dacc acc ∧ lcS vs t c f (ws.drop (i + 1)) ρ = .ok dr ∧ dacc ++ dr = dsAll,
      fun H' h => ⟨ws.length - (i + 1), by omega, rfl, hlt, h⟩, fun x H' hy => ?_⟩
    obtain ⟨F2, e2, r2⟩ := yl x H' Fi em.ff kx.sub hy
    rw [List.drop_eq_getElem_cons hlt] at z
    unfold lcS at z
    have k2 := (kH.ext e2).wipe vs
    refine hg x _ H' _ ⟨B, killAt vs ρ, F2, ws[i], k2, r2, ?_⟩
    cases z1 : t ws[i] (killAt vs ρ) with
    | no => rw [z1] at z; cases z
    | ex _ => rw [z1] at z; cases z
    | ok ρ1 =>
      rw [z1] at z
      intro σ' k3 n3 l3
      refine ⟨?_, ht _ _ _ ?_⟩
      · exact wipe_eq (fun j hj => n3 j fun q => hj (hsl j q)) l3 |>.trans wipe_wipe
      have z : (noEx (c ρ1)).bind _ = R.ok dr := z
      cases z2 : c ρ1 with
      | no => rw [z2] at z; cases z
      | ex _ => rw [z2] at z; cases z
      | ok b =>
        rw [z2] at z
        refine ⟨B, ρ1, F2, k3, ?_⟩
        rw [z2]
        intro F3 H3 e3
        have z : (if b = true then _ else _) = R.ok dr := z
        have e23 := e2.trans e3
        cases b with
        | false =>
          rw [if_neg (by decide)] at z
          refine iteF ⟨Vd.minus H3 D, F3, acc, dacc, dr, ?_, minus_self, em.trans (Ext.minus (o := .lst acc) em.sub hmD (fun _ h => nomatch h) e23), rep.mono e23.ff, z, eq⟩
          rw [upd_minus, upd_self (e23.hh _ _ upd_same)]
        | true =>
          rw [if_pos rfl] at z
          refine iteT (he _ _ _ ⟨B, ρ1, F3, k3.ext e3, ?_⟩)
          cases z3 : f ρ1 with
          | no => rw [z3] at z; cases z
          | ex _ => rw [z3] at z; cases z
          | ok y =>
            rw [z3] at z
            have z : (asDat y).bind _ = R.ok dr := z
            intro v F4 H4 e4 r4
            cases y with
            | dat d =>
              have z : (lcS vs t c f (ws.drop (i + 1)) ρ).bind _ = R.ok dr := z
              cases z4 : lcS vs t c f (ws.drop (i + 1)) ρ with
              | no => rw [z4] at z; cases z
              | ex _ => rw [z4] at z; cases z
              | ok dr' =>
                rw [z4] at z; cases z
                have e24 := e23.trans e4
                have hacc : H4 D = some (.lst acc) := e24.hh _ _ upd_same
                refine ⟨acc, hacc, ?_, Vd.minus H4 D, F4, acc ++ [v], dacc ++ [d], dr', by rw [upd_minus], minus_self, em.trans (Ext.minus (o := .lst acc) em.sub hmD (fun _ h => nomatch h) e24), (rep.mono e24.ff).app (.one r4), rfl, by simpa using eq⟩
                have h1 : acc.length = dacc.length := rep.len
                have h2 : dsAll.length ≤ sizeLine := hfit
                rw [← eq, List.length_append, List.length_cons] at h2
                omega
            | kdat _ => cases z
            | dK _ => cases z
            | dT _ => cases z
            | fn _ => cases z
            | obj _ _ => cases z
  · have e : i = ws.length := by omega
    subst e
    refine .inl ⟨w2 (Nat.le_refl _), ?_⟩
    rw [List.drop_length] at z
    cases z
    rw [List.append_nil] at eq
    subst eq
    refine q D [D] Fi _ ((e1.trans em).trans kx) ⟨rfl, acc, upd_same, rep⟩ fun b hb => ?_
    rw [List.mem_singleton.mp hb]
    exact ⟨(e1.trans em).hh.nn hmD, em.sub.nn hmD, ⟨_, upd_same, fun _ h => nomatch h⟩⟩
theorem vn_lc {elt tg iter : Expr} {ifs : List Expr} {scope : Scope} {own : List (Str × Nat)} {pos : Pos} {i : Rho → R (List W)} {sl : List Nat} {t : W → Rho → R Rho} {c : Rho → R Bool} {f : Rho → R W}
    (hc : X.calm = true) (hN : X.N.Nodup) (hi : VI X U tg iter i) (ok : BlkOk X.N X.env.scope scope own) (hsl : ∀ j ∈ sl, j ∈ own.map (·.2))
    (hg : ∀ (s : Shared) (H : Hp) (C : Addr) (cl : List (Str × Addr)) (fp : List Addr), VG (X.blk s H scope (compEnvC scope cl C X.env) fp) tg sl t)
    (ht : ∀ (s : Shared) (H : Hp) (C : Addr) (cl : List (Str × Addr)) (fp : List Addr), VC (X.blk s H scope (compEnvC scope cl C X.env) fp) ifs c)
    (he : ∀ (s : Shared) (H : Hp) (C : Addr) (cl : List (Str × Addr)) (fp : List Addr), VE (X.blk s H scope (compEnvC scope cl C X.env) fp) NoU elt f) (hs : ∀ x, foldedSetIterable iter X.env x = pure x := by intro _; rfl) :
    VN X U (.ListComp elt [⟨tg, iter, ifs, 0⟩] scope pos) (nLc i (own.map (·.2)) t c f) :=
  PE.imp (pe_lc (g := tG X sl t) (tt := tT X NoU c) (te := tE X NoU f) hc hN hi ok hg ht he hs) fun σ H Q q => lc_read (X := X) hsl (fun v σ H Q h => h) (fun σ H Q h => h) (fun σ H Q h => h) q
theorem vs_setLc (j : Nat) {y : Str} {py : Pos} {elt tg iter : Expr} {ifs : List Expr} {scope : Scope} {own : List (Str × Nat)} {pos spos : Pos} {i : Rho → R (List W)} {sl : List Nat} {t : W → Rho → R Rho} {c : Rho → R Bool} {f : Rho → R W}
    (hc : X.calm = true) (hN : X.N.Nodup) (hi : VI X U tg iter i) (ok : BlkOk X.N X.env.scope scope own) (hsl : ∀ j ∈ sl, j ∈ own.map (·.2))
    (hg : ∀ (s : Shared) (H : Hp) (C : Addr) (cl : List (Str × Addr)) (fp : List Addr), VG (X.blk s H scope (compEnvC scope cl C X.env) fp) tg sl t)
    (ht : ∀ (s : Shared) (H : Hp) (C : Addr) (cl : List (Str × Addr)) (fp : List Addr), VC (X.blk s H scope (compEnvC scope cl C X.env) fp) ifs c)
    (he : ∀ (s : Shared) (H : Hp) (C : Addr) (cl : List (Str × Addr)) (fp : List Addr), VE (X.blk s H scope (compEnvC scope cl C X.env) fp) NoU elt f)
    (hy : X.N[j]? = some y := by rfl) (hyl : X.env.scope.names.lookup y = some .local := by rfl) (hsw : swapsWith (.ListComp elt [⟨tg, iter, ifs, 0⟩] scope pos) (some (.Name y py)) spos.line X.env = pure true := by exact sw_true rfl rfl rfl (by decide +kernel))
    (hs : ∀ x, foldedSetIterable iter X.env x = pure x := by intro _; rfl) :
    VS X U (.Assign [.Name y py] (.ListComp elt [⟨tg, iter, ifs, 0⟩] scope pos) spos) (gOwn j (nLc i (own.map (·.2)) t c f)) :=
  PS.imp (ps_setLc (g := tG X sl t) (tt := tT X NoU c) (te := tE X NoU f) hc hN hy hyl hsw hi ok hg ht he hs) fun D σ H ⟨B, ρ, F, k, q⟩ => by
    refine lc_read (X := X) (U := U) hsl (fun v σ H Q h => h) (fun σ H Q h => h) (fun σ H Q h => h) ⟨B, ρ, F, k, ?_⟩
    unfold gOwn at q
    rw [run_bind] at q
    refine run_mono q (fun w _ q a fp F' H' e r hn => ?_) fun c q => ex_of k q
    obtain ⟨hl, q⟩ := setO_run q
    exact q F' _ H' (k.setO e hl r hn)
end
end Vd

/-! Val9: defs, raise, what changes. -/
namespace Vd
open L2 PyProof.Rows PySem PySem.Spec
def rho0 (n : Nat) (ws : List W) : Rho := ws.map .fz ++ List.replicate (n - ws.length) .un
def outW : Out → R W
  | .nx _ => .ok (.dat .none)
  | .rt w => .ok w
  | .ro w _ => .ok w
  | .rn _ _ => .no
def fnSem (n : Nat) (g : Rho → R Out) (ws : List W) : R W := (g (rho0 n ws)).bind outW
theorem EnvOk.start {K : PySem.W.Frag} {mg : Str → Option Value} {N : List Str} {F H : Hp} {ws : List W} {vs : List V} (s : Sub F H) (r : RpL K mg F ws vs) (hl : ws.length ≤ N.length) :
    EnvOk K mg ⟨F, H, N.length⟩ (rho0 N.length ws) F (start N vs) H := by
  have e := r.len
  have l2 : (rho0 N.length ws).length = N.length := by unfold rho0; simp; omega
  refine ⟨s, .refl _, .refl _, fun _ h => .inl h, by rw [l2]; unfold L2.start; simp; omega, l2, fun _ => [], fun i => ?_, fun i a (h : a ∈ ([] : List Addr)) => (nomatch h), fun i j a (h : a ∈ ([] : List Addr)) => (nomatch h)⟩
  rw [List.getD_eq_getElem?_getD]
  by_cases c : i < ws.length
  · have h1 : (rho0 N.length ws)[i]? = some (.fz ws[i]) := by
      unfold rho0; rw [List.getElem?_append_left (by simpa using c)]; simp [c]
    rw [h1]
    obtain ⟨v, h2, h3⟩ := r.get (i := i) (w := ws[i]) (by simp [c])
    refine ⟨rfl, v, ?_, h3⟩
    unfold L2.start
    rw [List.getElem?_append_left (by simp; omega)]
    simp [h2]
  · have h1 : (rho0 N.length ws)[i]?.getD .un = .un := by
      unfold rho0
      rw [List.getElem?_append_right (by simp; omega), List.getElem?_replicate]
      split <;> rfl
    rw [h1]; rfl
section
variable {P : Program} {w : World} {K : PySem.W.Frag} {mg : Str → Option Value} {base : Heap}
structure FnP (P : Program) (w : World) (K : PySem.W.Frag) (mg : Str → Option Value) (base : Heap) (k : Nat) (x : Str) (ps : List Str) (G : List W → R W) : Prop where
  ex : ∃ f fd, FnOk P w K mg base (L2N.CX P w) k f fd ps (spV K mg ps.length G) ∧ mg x = some (.ref f) ∧ PySem.W.keepIn K (.ref f) = true ∧ Binds K fd ps [] ∧ ∃ oc od sl, K.lookup f = some ⟨oc, od, .func fd, sl⟩
theorem FnP.fn {x : Str} {ps : List Str} {k : Nat} {G : List W → R W} (h : FnP P w K mg base k x ps G) : Fn P w K mg base k x ps.length G := by
  obtain ⟨f, fd, h1, h2, h3, h4, _⟩ := h.ex
  exact ⟨f, fd, ps, rfl, h1, h2, h3, h4⟩
theorem okN {x qual : Str} {st : Stmt} {f : Addr} {fd : FuncData} {N ps : List Str} {k : Nat} {sp : Sp} (F : Fun K x qual st f fd) (S : FnScope N ps (defScope st)) (len : ∀ vs H Q E, sp vs H Q E → vs.length = ps.length)
    (hb : ∀ (cdv : Value) (A : Around) (outer : List Env) (s : Shared) (H : Hp) (vs : List V) (Q : VK) (E : XK), Room k (A.deeper (envOfC qual (defScope st) s.heap.objs.size f cdv)) → sp vs H Q E → ∃ t,
      PSs (cxOf (L2N.CX P w) P w K mg base N qual (defScope st) f cdv A outer s H E) (defBody st) t ∧ t { nx := fun _ H' => Q .non H', rt := Q } (L2.start N vs) H) : FnOk P w K mg base (L2N.CX P w) (k + 1) f fd ps sp := by
  obtain ⟨_, _, _, _, _, _, c, _, _, e, lk, h⟩ := F.ex
  subst e
  exact fn_of lk h S len fun A outer s H vs Q E hr q => hb c A outer s H vs Q E hr q
theorem Fn.ofP {x qual : Str} {st : Stmt} {f : Addr} {fd : FuncData} {N ps : List Str} {k : Nat} {g : Rho → R Out} (F : Fun K x qual st f fd) (S : FnScope N ps (defScope st)) (gx : mg x = some (.ref f)) (hb : Binds K fd ps [])
    (body : ∀ (cdv : Value) (A : Around) (outer : List Env) (s : Shared) (H : Hp) (E : XK), Room k (A.deeper (envOfC qual (defScope st) s.heap.objs.size f cdv)) →
      VSs (cxOf (L2N.CX P w) P w K mg base N qual (defScope st) f cdv A outer s H E) (fun cls d _ H => E cls d H) (defBody st) g) : FnP P w K mg base (k + 1) x ps (fnSem N.length g) := by
  have hpl : ps.length ≤ N.length := by have := congrArg List.length S.pre; rw [List.length_take] at this; omega
  refine ⟨f, fd, okN F S (fun vs H Q E h => ?_) (fun cdv A outer s H vs Q E hr h => ?_), gx, F.kp, hb, by obtain ⟨oc, od, _, _, _, _, _, _, sl, _, lk, _⟩ := F.ex; exact ⟨oc, od, sl, lk⟩⟩
  · obtain ⟨_, _, hl, _⟩ := h; exact hl
  · obtain ⟨F0, ws, hl, sub, rep, q⟩ := h
    refine ⟨_, body cdv A outer s H E hr, ?_⟩
    unfold fnSem at q
    rw [run_bind] at q
    refine ⟨⟨F0, H, N.length⟩, rho0 N.length ws, F0, .start sub rep (by rw [← rep.len]; omega), run_mono q (fun o _ q => ?_) fun c q C σ' H' h1 _ h3 => q C H' h1 h3⟩
    cases o with
    | nx ρ' => exact fun F' σ' H' k' => q .non F' H' k'.fin rfl
    | rt w => exact fun v F' H' e r => q v F' H' e r
    | ro w ρ' => exact fun v F' σ' H' k' r => q v F' H' k'.fin r
    | rn c fs => exact q.elim
theorem Fn.of {x qual : Str} {st : Stmt} {f : Addr} {fd : FuncData} {N ps : List Str} {k : Nat} {g : Rho → R Out} (F : Fun K x qual st f fd) (S : FnScope N ps (defScope st)) (gx : mg x = some (.ref f)) (hb : Binds K fd ps [])
    (body : ∀ (cdv : Value) (A : Around) (outer : List Env) (s : Shared) (H : Hp) (E : XK), Room k (A.deeper (envOfC qual (defScope st) s.heap.objs.size f cdv)) →
      VSs (cxOf (L2N.CX P w) P w K mg base N qual (defScope st) f cdv A outer s H E) (fun cls d _ H => E cls d H) (defBody st) g) : Fn P w K mg base (k + 1) x ps.length (fnSem N.length g) := (Fn.ofP F S gx hb body).fn
end
section
variable {X : Cx} {U : WX}
/-! ### raise -/
structure ExcF (X : Cx) (x : Str) : Prop where
  ex : ∃ C, X.mg x = some (.ref C) ∧ PySem.W.excIn X.K C [.type "ValueError", .type "Exception", .type "BaseException", .type "object"] "ValueError.__new__" = true ∧ PySem.W.keepIn X.K (.ref C) = true ∧
    PySem.W.subIn X.K (.ref C) (.type "BaseException") = some true ∧ PySem.W.typeIn X.K (.ref C) = some (.type "type")
def gEx (x : Str) : Rho → R Out := fun _ => .ex x
theorem vs_raise {x m : Str} {j : Nat} {p p2 pos pos' : Pos} (hc : X.calm = true) (tk : L2N.Takes X U) (h : ExcF X x) (hg : Gl X x := by rfl) (hdb : (x == ("__debug__" : Str)) = false := by decide) :
    VS X U (.Raise (some (.Call (.Name x p) [.Constant (.str m) j p2] [] pos)) none pos') (gEx x) := by
  obtain ⟨C, h1, h2, h3, h4, h5⟩ := h.ex
  exact PS.imp (L2N.ps_raise hc tk (L2N.pmk_own PySem.F.excBase_ValueError h2 h1 h3 (raises_own h4 h5) hg hdb)) fun D σ H ⟨B, ρ, F, k, q⟩ => q C σ H h1 (k.len.trans k.lenB) k.h0
/-! ### what changes -/
theorem LLR.upd {F H : Hp} {a : Addr} {o : HO} : ∀ {dss : List (List Pd)} {bs : List Addr}, a ∉ bs → LLR F H dss bs → LLR F (upd H a o) dss bs
  | [], _, _, h => h
  | _ :: _, _, n, ⟨b, r, xs, e, h1, h2, h3⟩ => by
    subst e
    exact ⟨b, r, xs, rfl, by rw [upd_ne fun q => n (by simp [q])]; exact h1, h2, LLR.upd (fun q => n (List.mem_cons_of_mem _ q)) h3⟩
theorem OtR.upd {F H : Hp} {a b : Addr} {l : List Addr} {o : HO} {t : OT} (n : a ∉ l) (h : OtR F H b l t) : OtR F (L2.upd H a o) b l t := by
  cases t with
  | L ds => obtain ⟨e, xs, h1, h2⟩ := h; subst e; exact ⟨rfl, xs, by rw [upd_ne fun q => n (by simp [q])]; exact h1, h2⟩
  | dK ds => obtain ⟨e, xs, h1, h2⟩ := h; subst e; exact ⟨rfl, xs, by rw [upd_ne fun q => n (by simp [q])]; exact h1, h2⟩
  | dT ds => obtain ⟨e, xs, h1, h2⟩ := h; subst e; exact ⟨rfl, xs, by rw [upd_ne fun q => n (by simp [q])]; exact h1, h2⟩
  | LL dss => obtain ⟨bs, e, nd, h1, h2⟩ := h; subst e; exact ⟨bs, rfl, nd, by rw [upd_ne fun q => n (by simp [q])]; exact h1, h2.upd fun q => n (List.mem_cons_of_mem _ q)⟩
theorem EnvOk.getOw {K : PySem.W.Frag} {mg : Str → Option Value} {B : Bs} {ρ : Rho} {F H : Hp} {σ : L2.St} (k : EnvOk K mg B ρ F σ H) {i : Nat} {t : OT} (e : ρ[i]? = some (.ow t)) :
    ∃ a l, σ[i]? = some (some (.ref a)) ∧ OtR F H a l t ∧ ∀ (c : Addr) (o : HO) (t' : OT), c ∈ l → (∀ xs, o ≠ .tup xs) → OtR F (L2.upd H c o) a l t' → EnvOk K mg B (ρ.set i (.ow t')) F σ (L2.upd H c o) := by
  obtain ⟨fp, h1, h2, h3⟩ := k.fp
  have h := h1 i
  rw [List.getD_eq_getElem?_getD, e] at h
  obtain ⟨a, ha, ho⟩ := h
  refine ⟨a, fp i, ha, ho, fun c o t' hc hno ht => ?_⟩
  have hi : i < ρ.length := (List.getElem?_eq_some_iff.mp e).1
  obtain ⟨q1, q2, q3⟩ := h2 i c hc
  refine ⟨k.sub.updR q1, k.f0, k.h0.updR q2, k.nw, by simpa using k.len, by simpa using k.lenB, fp, fun j => ?_, fun j b hb => ?_, h3⟩
  · rw [getD_set hi]
    by_cases d : j = i
    · subst d; rw [if_pos rfl]; exact ⟨a, ha, ht⟩
    · rw [if_neg d]
      have hj := h1 j
      cases z : ρ.getD j .un with
      | un => rw [z] at hj; exact hj
      | fz w => rw [z] at hj; exact hj
      | ow u => rw [z] at hj; obtain ⟨b, hb, hu⟩ := hj; exact ⟨b, hb, hu.upd fun q => d (h3 j i c q hc)⟩
      | ob a c' fs => rw [z] at hj; exact hj.same (.refl F) fun x hx => upd_ne fun q => d (h3 j i x hx (q ▸ hc))
  · obtain ⟨y1, y2, y3⟩ := h2 j b hb
    refine ⟨y1, y2, ?_⟩
    by_cases d : b = c
    · subst d; exact ⟨o, upd_same, hno⟩
    · obtain ⟨u, y4, y5⟩ := y3; exact ⟨u, by rw [upd_ne d]; exact y4, y5⟩
def gApp (i : Nat) (f : Rho → R W) : Rho → R Out := fun ρ => match ρ[i]? with
  | some (.ow (.L ds)) => (f ρ).bind fun w => (asDat w).bind fun d => if ds.length < sizeLine then .ok (.nx (ρ.set i (.ow (.L (ds ++ [d]))))) else .no
  | _ => .no
theorem vs_append (i : Nat) {x : Str} {e : Expr} {f : Rho → R W} {p apos cpos pos : Pos} (h : VE X U e f) (hN : X.N[i]? = some x := by rfl) (hv : Vis X.env.scope x := by first | exact Or.inl rfl | exact Or.inr (Or.inl rfl) | exact Or.inr (Or.inr rfl)) (hd : (x == ("__debug__" : Str)) = false := by decide)
    (hcd : (x == ("__classdict__" : Str)) = false := by decide) (hbase : attributeBase (.Name x p) "append" X.env (eval (.Name x p) X.env) = eval (.Name x p) X.env := by rfl) (hline : (apos.endLine == cpos.line) = true := by rfl)
    (hs1 : starEach [e] X.env = (false, eval e X.env) :: starEach [] X.env := by rfl)
    (hs : swapsWith (.Call (.Attribute (.Name x p) "append" apos) [e] [] cpos) none pos.line X.env = pure false := by rfl) : VS X U (.Expr (.Call (.Attribute (.Name x p) "append" apos) [e] [] cpos) pos) (gApp i f) := by
  refine PS.imp (ps_expr (pe_bm PySem.F.plainAttrs_list PySem.F.slot_list_append PySem.F.type_list_append mt_append (pe_var hN hv hd hcd) (pa_cons h pa_nil hs1) hbase (by rw [hs1]; rfl) hline hs1 rfl) hs) fun D σ H ⟨B, ρ, F, k, q⟩ => ?_
  unfold gApp at q
  split at q
  · rename_i ds hds
    obtain ⟨a, l, ha, ho, _⟩ := k.getOw hds
    obtain ⟨rfl, xs, hx, hr⟩ := ho
    rw [run_bind] at q
    refine ⟨.ref a, ha, .inl ⟨rfl, xs, .of hx⟩, B, ρ, F, k, run_mono q (fun w _ q v F1 H1 e1 r1 => ?_) fun c q => ex_of k q⟩
    obtain ⟨d, rfl, q⟩ := asDat_run q
    obtain ⟨hl, q⟩ := run_if q
    obtain ⟨a', l', ha', ho', up⟩ := (k.ext e1).getOw hds
    rw [ha] at ha'; cases ha'
    obtain ⟨rfl, xs', hx', hr'⟩ := ho'
    have := e1.hh _ _ hx
    rw [this] at hx'; cases hx'
    refine ⟨a, xs, v, rfl, rfl, this, by rw [hr.len]; exact hl, ?_⟩
    exact q F1 σ _ (up a _ _ (by simp) (fun _ h => nomatch h) ⟨rfl, _, upd_same, hr'.app (.one r1)⟩)
  · exact q.elim
def gExt (i : Nat) (f : Rho → R W) : Rho → R Out := fun ρ => match ρ[i]? with
  | some (.ow (.L ds)) => (f ρ).bind fun w => match w with
    | .dat (.list es) => if ds.length + es.length ≤ sizeLine then .ok (.nx (ρ.set i (.ow (.L (ds ++ es))))) else .no
    | _ => .no
  | _ => .no
theorem vs_extend (i : Nat) {x : Str} {e : Expr} {f : Rho → R W} {p apos cpos pos : Pos} (h : VE X U e f) (hN : X.N[i]? = some x := by rfl) (hv : Vis X.env.scope x := by first | exact Or.inl rfl | exact Or.inr (Or.inl rfl) | exact Or.inr (Or.inr rfl)) (hd : (x == ("__debug__" : Str)) = false := by decide)
    (hcd : (x == ("__classdict__" : Str)) = false := by decide) (hbase : attributeBase (.Name x p) "extend" X.env (eval (.Name x p) X.env) = eval (.Name x p) X.env := by rfl) (hline : (apos.endLine == cpos.line) = true := by rfl)
    (hs1 : starEach [e] X.env = (false, eval e X.env) :: starEach [] X.env := by rfl)
    (hs : swapsWith (.Call (.Attribute (.Name x p) "extend" apos) [e] [] cpos) none pos.line X.env = pure false := by rfl) : VS X U (.Expr (.Call (.Attribute (.Name x p) "extend" apos) [e] [] cpos) pos) (gExt i f) := by
  refine PS.imp (ps_expr (pe_bm PySem.F.plainAttrs_list PySem.F.slot_list_extend PySem.F.type_list_extend mt_extend (pe_var hN hv hd hcd) (pa_cons h pa_nil hs1) hbase (by rw [hs1]; rfl) hline hs1 rfl) hs) fun D σ H ⟨B, ρ, F, k, q⟩ => ?_
  unfold gExt at q
  split at q
  · rename_i ds hds
    obtain ⟨a, l, ha, ho, _⟩ := k.getOw hds
    obtain ⟨rfl, xs, hx, hr⟩ := ho
    rw [run_bind] at q
    refine ⟨.ref a, ha, .inl ⟨rfl, xs, .of hx⟩, B, ρ, F, k, run_mono q (fun w _ q v F1 H1 e1 r1 => ?_) fun c q => ex_of k q⟩
    split at q
    · obtain ⟨hl, q⟩ := run_if q
      obtain ⟨a', l', ha', ho', up⟩ := (k.ext e1).getOw hds
      rw [ha] at ha'; cases ha'
      obtain ⟨rfl, xs', hx', hr'⟩ := ho'
      have := e1.hh _ _ hx
      rw [this] at hx'; cases hx'
      obtain ⟨b, ys, rfl, h1, h2⟩ := r1
      refine ⟨a, b, xs, ys, rfl, rfl, this, e1.sub _ _ h1, by rw [hr.len, h2.len]; exact hl, ?_⟩
      exact q F1 σ _ (up a _ _ (by simp) (fun _ h => nomatch h) ⟨rfl, _, upd_same, hr'.app h2⟩)
    · exact q.elim
  · exact q.elim
/-- y = x.pop() -/
def gPop (j i : Nat) : Rho → R Out := fun ρ => match ρ[i]? with
  | some (.ow (.L ds)) => match ds.getLast? with
    | some d => (setF j (.dat d) (ρ.set i (.ow (.L ds.dropLast)))).bind fun ρ' => .ok (.nx ρ')
    | none => .no
  | _ => .no
theorem DsL.dropLast {F : Hp} : ∀ {ds : List Pd} {xs : List V}, DsL F ds xs → DsL F ds.dropLast xs.dropLast := fun {ds xs} h => by
  rw [List.dropLast_eq_take, List.dropLast_eq_take, h.len]; exact h.take _
theorem vs_pop (j i : Nat) {x y : Str} {p py apos cpos pos : Pos} (hN : X.N.Nodup) (hiN : X.N[i]? = some x := by rfl) (hv : Vis X.env.scope x := by first | exact Or.inl rfl | exact Or.inr (Or.inl rfl) | exact Or.inr (Or.inr rfl)) (hj : X.N[j]? = some y := by rfl) (hy : Loc X.env.scope y := by first | exact .inl rfl | exact .inr rfl)
    (hf : X.fn y = true ∨ X.env.scope.names.lookup y = some .local := by first | exact .inl rfl | exact .inr rfl) (hd : (x == ("__debug__" : Str)) = false := by decide)
    (hcd : (x == ("__classdict__" : Str)) = false := by decide) (hbase : attributeBase (.Name x p) "pop" X.env (eval (.Name x p) X.env) = eval (.Name x p) X.env := by rfl) (hline : (apos.endLine == cpos.line) = true := by rfl)
    (hs : swapsWithSole [.Name y py] (.Call (.Attribute (.Name x p) "pop" apos) [] [] cpos) pos.line X.env = pure false := by rfl) : VS X U (.Assign [.Name y py] (.Call (.Attribute (.Name x p) "pop" apos) [] [] cpos) pos) (gPop j i) := by
  refine PS.imp (ps_asg (pe_bm0 PySem.F.plainAttrs_list PySem.F.slot_list_pop PySem.F.type_list_pop mt_pop (pe_var hiN hv hd hcd) hbase hline) (pg_name (i := j) hN hj hy hf) hs) fun D σ H ⟨B, ρ, F, k, q⟩ => ?_
  unfold gPop at q
  split at q
  · rename_i ds hds
    split at q
    · rename_i d hd
      obtain ⟨hl, q⟩ := setF_run q
      obtain ⟨a, l, ha, ho, up⟩ := k.getOw hds
      obtain ⟨rfl, xs, hx, hr⟩ := ho
      rw [List.getLast?_eq_getElem?] at hd
      obtain ⟨v, hv, rv⟩ := hr.get hd
      have k2 := up a (.lst xs.dropLast) (.L ds.dropLast) (by simp) (fun _ h => nomatch h) ⟨rfl, _, upd_same, hr.dropLast⟩
      exact ⟨.ref a, ha, .inl ⟨rfl, xs, .of hx⟩, a, xs, v, rfl, rfl, hx, by rw [hr.len]; exact hv, q F _ _ (k2.setF hl rv)⟩
    · exact q.elim
  · exact q.elim
/-- d[k] = v -/
def gPut (i : Nat) (kf vf : Rho → R W) : Rho → R Out := fun ρ => (vf ρ).bind fun v => (asDat v).bind fun dv => match ρ[i]? with
  | some (.ow (.dK kvs)) => (kf ρ).bind fun y => (asDat y).bind fun dy => match keyK dy with
    | some k => if kvs.length < sizeLine then .ok (.nx (ρ.set i (.ow (.dK (pt kvs k dv))))) else .no
    | none => .no
  | some (.ow (.dT kvs)) => (kf ρ).bind fun y => (asDat y).bind fun dy => match keyT dy with
    | some k => if kvs.length < sizeLine then .ok (.nx (ρ.set i (.ow (.dT (pt kvs k dv))))) else .no
    | none => .no
  | _ => .no
theorem vs_put (i : Nat) {x : Str} {ke ve : Expr} {kf vf : Rho → R W} {p spos pos : Pos} (hu : X.A.units + 65 < cLine) (hk : VE X U ke kf) (hvv : VE X U ve vf) (hN : X.N[i]? = some x := by rfl) (hv : Vis X.env.scope x := by first | exact Or.inl rfl | exact Or.inr (Or.inl rfl) | exact Or.inr (Or.inr rfl)) (hd : (x == ("__debug__" : Str)) = false := by decide)
    (hcd : (x == ("__classdict__" : Str)) = false := by decide) (hs : swapsWith ve (some (.Subscript (.Name x p) ke spos)) pos.line X.env = pure false := by rfl) : VS X U (.Assign [.Subscript (.Name x p) ke spos] ve pos) (gPut i kf vf) := by
  refine PS.imp (ps_dput (by omega) (pe_var hN hv hd hcd) hk hvv hs) fun D σ H ⟨B, ρ, F, k, q⟩ => ?_
  unfold gPut at q
  rw [run_bind] at q
  refine ⟨B, ρ, F, k, run_mono q (fun w _ q v F1 H1 e1 r1 => ?_) fun c q => ex_of k q⟩
  obtain ⟨dv, ew, q2⟩ := asDat_run q
  subst ew
  clear q
  have q := q2
  clear q2
  have k1 := k.ext e1
  split at q
  · rename_i kvs hds
    obtain ⟨a, l, ha, ho, _⟩ := k1.getOw hds
    obtain ⟨rfl, ks, hx, hr⟩ := ho
    rw [run_bind] at q
    refine ⟨.ref a, ha, B, ρ, F1, k1, run_mono q (fun y _ q yv F2 H2 e2 r2 => ?_) fun c q => ex_of k1 q⟩
    obtain ⟨dy, ew, q2⟩ := asDat_run q
    subst ew
    clear q
    have q := q2
    clear q2
    obtain ⟨a', l', ha', ho', up⟩ := (k1.ext e2).getOw hds
    rw [ha] at ha'; cases ha'
    obtain ⟨rfl, ks', hx', hr'⟩ := ho'
    have h2 := e2.hh _ _ hx
    rw [h2] at hx'; cases hx'
    split at q
    · rename_i kk hkk
      obtain ⟨hl, q⟩ := run_if q
      have hy := Ds.keyK r2 hkk
      subst hy
      refine ⟨a, _, rfl, .k h2 (by rw [hr.len]; exact hl), ?_⟩
      exact q F2 σ _ (up a _ _ (by simp) (fun _ h => nomatch h) ⟨rfl, _, upd_same, hr'.put (r1.mono e2.ff)⟩)
    · exact q.elim
  · rename_i kvs hds
    obtain ⟨a, l, ha, ho, _⟩ := k1.getOw hds
    obtain ⟨rfl, ks, hx, hr⟩ := ho
    rw [run_bind] at q
    refine ⟨.ref a, ha, B, ρ, F1, k1, run_mono q (fun y _ q yv F2 H2 e2 r2 => ?_) fun c q => ex_of k1 q⟩
    obtain ⟨dy, ew, q2⟩ := asDat_run q
    subst ew
    clear q
    have q := q2
    clear q2
    obtain ⟨a', l', ha', ho', up⟩ := (k1.ext e2).getOw hds
    rw [ha] at ha'; cases ha'
    obtain ⟨rfl, ks', hx', hr'⟩ := ho'
    have h2 := e2.hh _ _ hx
    rw [h2] at hx'; cases hx'
    split at q
    · rename_i kk hkk
      obtain ⟨hl, q⟩ := run_if q
      obtain ⟨b, rfl, hb⟩ := Ds.keyT r2 hkk
      refine ⟨a, _, rfl, .t h2 (e2.sub _ _ hb) (by rw [hr.len]; exact hl), ?_⟩
      exact q F2 σ _ (up a _ _ (by simp) (fun _ h => nomatch h) ⟨rfl, _, upd_same, hr'.put (r1.mono e2.ff)⟩)
    · exact q.elim
  · exact q.elim
/-- xs[i] = v, xs a list of one's own -/
def gSetI (i : Nat) (kf vf : Rho → R W) : Rho → R Out := fun ρ => (vf ρ).bind fun v => (asDat v).bind fun dv => match ρ[i]? with
  | some (.ow (.L ds)) => (kf ρ).bind fun y => match y with
    | .dat (.int n) => match ixN ds.length n with
      | some j => .ok (.nx (ρ.set i (.ow (.L (ds.set j dv)))))
      | none => .no
    | _ => .no
  | _ => .no
/-- a dict of one's own, new -/
def nDK : Rho → R OT := fun _ => .ok (.dK [])
def nDT : Rho → R OT := fun _ => .ok (.dT [])
theorem vn_dK {pos : Pos} : VN X U (.Dict [] [] pos) nDK := PE.imp pe_dnewK fun σ H Q ⟨B, ρ, F, k, q⟩ => fun p hp =>
  q p [p] F _ (.newO k.sub hp) ⟨rfl, [], upd_same, .nil⟩ fun b hb => by rw [List.mem_singleton.mp hb]; exact ⟨hp, k.sub.nn hp, ⟨_, upd_same, fun _ h => nomatch h⟩⟩
theorem vn_dT {pos : Pos} : VN X U (.Dict [] [] pos) nDT := PE.imp pe_dnewT fun σ H Q ⟨B, ρ, F, k, q⟩ => fun p hp =>
  q p [p] F _ (.newO k.sub hp) ⟨rfl, [], upd_same, .nil⟩ fun b hb => by rw [List.mem_singleton.mp hb]; exact ⟨hp, k.sub.nn hp, ⟨_, upd_same, fun _ h => nomatch h⟩⟩
end
end Vd

/-! Val10: built-ins. -/
namespace Vd
open L2 PyProof.Rows PySem PySem.Spec
section
variable {X : Cx} {U : WX}
/-! ### a display of one pair -/
def tDisp1T (tk tv : TE) : TE := fun σ H Q => ∀ p, H p = none → tk σ (upd H p (.dT [])) fun x H1 => tv σ H1 fun y H2 => H2 p = some (.dT []) ∧ ∃ k b, x = .ref b ∧ H2 b = some (.tup (k.map kV)) ∧ Q (.ref p) (upd H2 p (.dT [(k, y)]))
theorem pe_disp1T {ke ve : Expr} {tk tv : TE} {pos : Pos} (hu : X.A.units + 65 < cLine) (hk : PE X ke tk) (hv : PE X ve tv) : PE X (.Dict [some ke] [ve] pos) (tDisp1T tk tv) := by
  refine ⟨fun pins s σ H Q I q => ?_⟩
  have hn := I.hok.fresh (Nat.le_refl s.heap.objs.size)
  have I1 := I.laid (a := s.heap.objs.size) (o := .dT []) (h' := s.heap.push { cls := .type "dict", data := .dict #[] }) (t' := s.toks) (fun _ _ q => Heap.get?_push_of_some _ q) (Nat.le_refl _) (dt_empty s.heap I.big)
  have PP := pps_cons (pos := pos) hk hv (pps_nil (X := X) (pos := pos))
  have hl : (pairTrees [some ke] [ve] X.env pos).length = 1 := pairTrees_length [some ke] [ve] X.env pos rfl rfl
  have run := PP.run pins _ σ _ (fun ps H2 => match ps with
    | [(x, y)] => H2 s.heap.objs.size = some (.dT []) ∧ ∃ k b, x = .ref b ∧ H2 b = some (.tup (k.map kV)) ∧ Q (.ref s.heap.objs.size) (upd H2 s.heap.objs.size (.dT [(k, y)]))
    | _ => False) I1 (q _ hn)
  rw [arm_eval_Dict, zip_pairTrees [some ke] [ve] X.env pos rfl rfl, dictDisplay_pairs (pairTrees [some ke] [ve] X.env pos) (by intro h; rw [h] at hl; cases hl) (by omega)]
  refine wpAny_bind (wpAny_standAt (wpAny_bind (wpAny_subDictH (knd := tupleKind (mixKind X.prog X.w)) (show X.A.units < cLine by omega) (by omega) (thn run fun vs s2 h2 => ?_))))
  obtain ⟨ps, H2, I2, rel, h2⟩ := h2
  split at h2
  · rename_i x y
    obtain ⟨hp, k, b, ex, hb, q2⟩ := h2
    subst ex
    cases rel with
    | cons r1 r2 =>
      cases r2
      rename_i pv
      obtain ⟨u, v⟩ := pv
      obtain ⟨ru, rv⟩ := r1
      cases (show u = Value.ref b from ru)
      obtain ⟨z, hd, xs, rel, dd⟩ := dt_of I2.hok hp
      cases rel
      refine ⟨[(k, b, v)], ⟨rfl, rfl, key_of I2.hok hb, trivial⟩, dd, fun h' tk dd' hs => wpAny_pure ?_⟩
      obtain ⟨o, es, ep, hq, h2, h3, h4, _, h5⟩ := dd'
      refine ⟨.ref s.heap.objs.size, _, d_write I2 (by rw [hp]; exact True.intro) hs ⟨o, hq⟩ (ob := .dT [(k, y)]) (t' := tk) ⟨(show 1 ≤ sizeLine by rw [sizeLine_eq]; decide), hd, [(k, b, v)], .cons ⟨rfl, ?_, rv⟩ .nil, o, es, ep, hq, h2, h3, h4, h5⟩, rfl, q2⟩
      rw [upd_ne (ne_of hb hp (fun z => nomatch z))]
      exact hb
  · exact h2.elim
def nDisp1T (kf vf : Rho → R W) : Rho → R OT := fun ρ => (kf ρ).bind fun y => (vf ρ).bind fun v => (asDat y).bind fun dy => (asDat v).bind fun dv => match keyT dy with
  | some k => .ok (.dT [(k, dv)])
  | none => .no
theorem vn_disp1T {ke ve : Expr} {kf vf : Rho → R W} {pos : Pos} (hu : X.A.units + 65 < cLine) (hk : VE X U ke kf) (hv : VE X U ve vf) : VN X U (.Dict [some ke] [ve] pos) (nDisp1T kf vf) :=
  PE.imp (pe_disp1T hu hk hv) fun σ H Q ⟨B, ρ, F, k, q⟩ => fun p hp => by
    unfold nDisp1T at q
    rw [run_bind] at q
    have e0 : Ext F H F (upd H p (.dT [])) := .newO k.sub hp
    have k0 := k.ext e0
    refine ⟨B, ρ, F, k0, run_mono q (fun y _ q x F1 H1 e1 r1 => ?_) fun c q C H' h1 h2 => q C H' h1 (e0.hh.trans h2)⟩
    rw [run_bind] at q
    refine ⟨B, ρ, F1, k0.ext e1, run_mono q (fun v _ q z F2 H2 e2 r2 => ?_) fun c q C H' h1 h2 => q C H' h1 ((e0.trans e1).hh.trans h2)⟩
    obtain ⟨dy, ew, q2⟩ := asDat_run q
    subst ew
    obtain ⟨dv, ew, q3⟩ := asDat_run q2
    subst ew
    clear q q2
    have e02 := (e0.trans e1).trans e2
    have hp2 : H2 p = some (.dT []) := (e1.trans e2).hh _ _ upd_same
    split at q3
    · rename_i kk hkk
      obtain ⟨b, rfl, hb⟩ := Ds.keyT r1 hkk
      refine ⟨hp2, kk, b, rfl, e2.hh _ _ (e1.sub _ _ hb), ?_⟩
      have em : Ext F H F2 (Vd.minus H2 p) := Ext.minus (o := .dT []) k.sub hp (fun _ h => nomatch h) (e1.trans e2)
      have hF2 : F2 p = none := em.sub.nn minus_self
      have ex : Ext F H F2 (upd (Vd.minus H2 p) p (.dT [(kk, z)])) := em.trans (.newO em.sub minus_self)
      rw [upd_minus] at ex
      refine q3 p [p] F2 _ ex ⟨rfl, _, upd_same, .cons r2 .nil⟩ fun c hc => ?_
      rw [List.mem_singleton.mp hc]
      exact ⟨hp, hF2, ⟨_, upd_same, fun _ h => nomatch h⟩⟩
    · exact q3.elim
/-! ### a list unpacked -/
def unlG (n : Nat) (t : List W → Rho → R Rho) : W → Rho → R Rho
  | .dat (.list ds), ρ => if ds.length = n then t (ds.map .dat) ρ else .no
  | _, _ => .no
theorem vg_unl {es : List Expr} {kk n : Nat} {pos : Pos} {sl : List Nat} {t : List W → Rho → R Rho} (hc : X.calm = true) (h : VGs X es sl t) (hn : (assignEach es X.env).length = n := by rfl) (hst : (assignEach es X.env).findIdx? (·.1) = none := by rfl) :
    VG X (.Tuple es kk pos) sl (unlG n t) := PG.imp (pg_unl hc h hn hst) fun v σ H Q ⟨B, ρ, F, w, k, r, q⟩ => by
  unfold unlG at q
  split at q
  · rename_i ds
    obtain ⟨hl, q⟩ := run_if q
    obtain ⟨a, xs, rfl, h1, h2⟩ := r
    exact ⟨a, xs, rfl, .of (k.sub _ _ h1), by rw [h2.len]; exact hl, B, ρ, F, _, k, h2.rpl, q⟩
  · exact q.elim
/-! ### xs[::-1] of a list -/
def pRev : W → R W
  | .dat (.list ds) => .ok (.dat (.list ds.reverse))
  | _ => .no
theorem ve_revL {e : Expr} {f : Rho → R W} {k : Nat} {p1 p2 p3 pos : Pos} (he : VB X U e f) : VE X U (.Subscript e (.Slice none none (some (.UnaryOp .USub (.Constant (.int 1) k p1) p2)) p3) pos) (f1 pRev f) :=
  PE.imp (pe_revL he) fun σ H Q ⟨B, ρ, F, k, q⟩ => by
    unfold f1 at q
    rw [run_bind] at q
    refine ⟨B, ρ, F, k, run_mono q (fun w _ q v F1 H1 e1 r1 => ?_) fun _ q => q⟩
    unfold pRev at q
    split at q
    · obtain ⟨a, xs, rfl, h1, h2⟩ := r1
      exact ⟨a, xs, rfl, .of h1, fun p hp => q _ _ _ (e1.trans (.new e1.sub hp)) ⟨p, _, rfl, upd_same, h2.rev.mono (.upd (e1.sub.nn hp))⟩⟩
    · exact q.elim
/-! ### len, all, isinstance -/
theorem VCal.mk {fv : Value} {r : List V → Hp → VK → Prop} {g : List W → R W} (h : CallR X fv r) (i : ∀ F H xs ws Q, Sub F H → RBL X.K X.mg F H ws xs → run (g ws) (fun w => ∀ v F' H', Ext F H F' H' → RpW X.K X.mg F' w v → Q v H') (fun _ => False) → r xs H Q) : VCal X fv g := ⟨r, h, i⟩
def pLen : List W → R W
  | [.dat (.list ds)] => .ok (wI ds.length)
  | [.dat (.tuple ds)] => .ok (wI ds.length)
  | [.kdat (.list ds)] => .ok (wI ds.length)
  | [.dat (.str x)] => if x.length ≤ sizeLine then .ok (wI x.length) else .no
  | [.dK kvs] => .ok (wI kvs.length)
  | _ => .no
theorem CallR.or {fv : Value} {r r' : List V → Hp → VK → Prop} (h : CallR X fv r) (h' : CallR X fv r') : CallR X fv (fun xs H Q => r xs H Q ∨ r' xs H Q) := fun pins s σ H xs us Q I rv q => q.elim (h pins s σ H xs us Q I rv) (h' pins s σ H xs us Q I rv)
theorem cal_len : VCal X (.builtin "len") pLen := .mk (CallR.or call_len (r' := fun xs H Q => ∃ a kvs, xs = [V.ref a] ∧ Rd H a (.dK kvs) ∧ Q (.int kvs.length) H) (by
    intro pins s σ H vs us Q I r h
    obtain ⟨a, kvs, rfl, e, q⟩ := h
    obtain ⟨u, rfl, ru⟩ := vals1 r
    cases ru
    exact d_len I e fun t s' I' => ⟨.int kvs.length, H, I', ⟨t, rfl⟩, q⟩)) fun F H xs ws Q s rb q => by
  unfold pLen at q
  split at q
  · obtain ⟨v, r, rfl, ⟨a, xs, rfl, h1, h2⟩, h3⟩ := rb
    cases h3
    exact .inl ⟨.ref a, _, rfl, .inl ⟨xs, .of h1, rfl⟩, by rw [h2.len]; exact q _ F H (.refl s) rfl⟩
  · obtain ⟨v, r, rfl, ⟨a, xs, rfl, h1, h2⟩, h3⟩ := rb
    cases h3
    exact .inl ⟨.ref a, _, rfl, .inr ⟨xs, .of (s _ _ h1), rfl⟩, by rw [h2.len]; exact q _ F H (.refl s) rfl⟩
  · obtain ⟨v, r, rfl, h0, h3⟩ := rb
    cases h3
    cases h0 with
    | @lst a xs ds h1 h2 => exact .inl ⟨.ref a, _, rfl, .inl ⟨xs, L2.Same.seq s h1, rfl⟩, by rw [DpL.len h2]; exact q _ F H (.refl s) rfl⟩
  · obtain ⟨hl, q⟩ := run_if q
    obtain ⟨v, r, rfl, h0, h3⟩ := rb
    cases h3
    exact .inl ⟨v, _, rfl, by rw [show v = _ from h0]; exact ⟨hl, rfl⟩, q _ F H (.refl s) rfl⟩
  · obtain ⟨v, r, rfl, ⟨a, ks, rfl, h1, h2⟩, h3⟩ := rb
    cases h3
    exact .inr ⟨a, ks, rfl, h1, by rw [h2.len]; exact q _ F H (.refl s) rfl⟩
  · exact q.elim
theorem nx_pLen : NoxL pLen := fun ws c => by unfold pLen; split <;> first | (intro h; cases h; done) | (split <;> (intro h; cases h))
def allB : List Pd → Option (List Bool)
  | [] => some []
  | .bool b :: r => (allB r).map (b :: ·)
  | _ :: _ => none
theorem allB_rep {F : Hp} : ∀ {ds : List Pd} {xs : List V} {bs : List Bool}, DsL F ds xs → allB ds = some bs → xs = bs.map V.bl
  | [], _, _, h, e => by cases h; cases e; rfl
  | .bool i :: r, _, ns, ⟨x, t, e1, h, q⟩, e => by
    unfold allB at e
    cases z : allB r with
    | none => rw [z] at e; cases e
    | some ms =>
      rw [z] at e; cases e
      rw [e1, h, allB_rep q z]; rfl
  | .none :: _, _, _, _, e => by cases e
  | .int _ :: _, _, _, _, e => by cases e
  | .str _ :: _, _, _, _, e => by cases e
  | .list _ :: _, _, _, _, e => by cases e
  | .tuple _ :: _, _, _, _, e => by cases e
  | .dict _ :: _, _, _, _, e => by cases e
def pAll : List W → R W
  | [.dat (.list ds)] => match allB ds with
    | some bs => .ok (bv (bs.all id))
    | none => .no
  | _ => .no
theorem cal_all (hc : X.calm = true) : VCal X (.builtin "all") pAll := .mk (cr_all hc) fun F H xs ws Q s rb q => by
  unfold pAll at q
  split at q
  · obtain ⟨v, r, rfl, ⟨a, xs, rfl, h1, h2⟩, h3⟩ := rb
    cases h3
    split at q
    · rename_i bs hb
      have e := allB_rep h2 hb
      subst e
      exact ⟨a, bs, rfl, .of h1, q _ F H (.refl s) rfl⟩
    · exact q.elim
  · exact q.elim
theorem nx_pAll : NoxL pAll := fun ws c => by unfold pAll; split <;> first | (intro h; cases h; done) | (split <;> (intro h; cases h))
/-- the class of a value -/
def tyN : W → Option String
  | .dat .none => some "NoneType"
  | .dat (.bool _) => some "bool"
  | .dat (.int _) => some "int"
  | .dat (.str _) => some "str"
  | .dat (.list _) => some "list"
  | .dat (.tuple _) => some "tuple"
  | _ => none
def isB (a b : String) : Bool := a == b || (a == "bool" && b == "int")
def pIsi (T : String) (w : W) : R W := match tyN w with
  | some a => .ok (bv (isB a T))
  | none => .no
theorem isB_kit {a T : String} (ha : a = "NoneType" ∨ a = "bool" ∨ a = "int" ∨ a = "str" ∨ a = "list" ∨ a = "tuple") (hT : T = "int" ∨ T = "bool" ∨ T = "str" ∨ T = "list" ∨ T = "tuple") : kitB a T = some (isB a T) := by
  rcases ha with rfl | rfl | rfl | rfl | rfl | rfl <;> rcases hT with rfl | rfl | rfl | rfl | rfl <;> decide +kernel
theorem ve_isi {x T : Str} {e : Expr} {f : Rho → R W} {p p2 pos : Pos} (Ts : String) (hT : Ts = "int" ∨ Ts = "bool" ∨ Ts = "str" ∨ Ts = "list" ∨ Ts = "tuple") (hm : X.mg "isinstance" = none) (hmT : X.mg T = none) (hvT : bootBuiltins T = some (.type Ts)) (he : VB X U e f)
    (hx : x = "isinstance" := by rfl) (hg : Gl X "isinstance" := by rfl) (hgT : Gl X T := by rfl) (hnT : T ≠ "__name__" := by decide) (hdT : (T == ("__debug__" : Str)) = false := by decide)
    (hs1 : starEach [e, .Name T p2] X.env = (false, eval e X.env) :: starEach [.Name T p2] X.env := by rfl) (hs2 : starEach [.Name T p2] X.env = (false, eval (.Name T p2) X.env) :: starEach [] X.env := by rfl) (hpl : (backTo pos (starEach [.Name T p2] X.env)).any (·.1) = false := by rfl) :
    VE X U (.Call (.Name x p) [e, .Name T p2] [] pos) (f1 (pIsi Ts) f) := by
  subst hx
  refine PE.imp (pe_callB call_isi hg hm PyProof.Rows.boot_isinstance (pa_cons he (pa_cons (pe_bltn (v := .ty Ts) hgT hmT hvT rfl hnT hdT) pa_nil hs2) hs1) (by decide) (by decide) hs1 hpl) fun σ H Q ⟨B, ρ, F, k, q⟩ => ?_
  unfold f1 at q
  rw [run_bind] at q
  refine ⟨B, ρ, F, k, run_mono q (fun w _ q v F1 H1 e1 r1 => ?_) fun _ q => q⟩
  unfold pIsi at q
  cases z : tyN w with
  | none => rw [z] at q; exact q.elim
  | some a =>
    rw [z] at q
    have fin := q (.bl (isB a Ts)) F1 H1 e1 rfl
    cases w with
    | dat d =>
      cases d with
      | none => cases z; exact ⟨v, _, _, _, _, rfl, .ty _, by rw [show v = _ from r1]; exact .base .non, kit_ty (isB_kit (by simp) hT), fin⟩
      | bool b => cases z; exact ⟨v, _, _, _, _, rfl, .ty _, by rw [show v = _ from r1]; exact .base (.bl _), kit_ty (isB_kit (by simp) hT), fin⟩
      | int i => cases z; exact ⟨v, _, _, _, _, rfl, .ty _, by rw [show v = _ from r1]; exact .base (.int _), kit_ty (isB_kit (by simp) hT), fin⟩
      | str y => cases z; exact ⟨v, _, _, _, _, rfl, .ty _, by rw [show v = _ from r1]; exact .base (.str _), kit_ty (isB_kit (by simp) hT), fin⟩
      | list ds => cases z; obtain ⟨b, xs, rfl, h1, h2⟩ := r1; exact ⟨.ref b, _, _, _, _, rfl, .ty _, .base (.lst h1), kit_ty (isB_kit (by simp) hT), fin⟩
      | tuple ds => cases z; obtain ⟨b, xs, rfl, h1, h2⟩ := r1; exact ⟨.ref b, _, _, _, _, rfl, .ty _, .base (.tup (e1.sub _ _ h1)), kit_ty (isB_kit (by simp) hT), fin⟩
      | dict _ => cases z
    | kdat _ => cases z
    | dK _ => cases z
    | dT _ => cases z
    | fn _ => cases z
    | obj _ _ => cases z
end
end Vd

/-! Val11: sorted. -/
namespace Vd
open L2 PyProof.Rows PySem PySem.Spec
open PySem.W (EachIs AllAlike Sortable dataLe alike)
def RV (F : Hp) (v : Value) (d : Pd) : Prop := ∃ x, RelV x v ∧ Ds F d x
theorem rv_each {F : Hp} : ∀ {ds : List Pd} {xs : List V} {vs : List Value}, DsL F ds xs → Vals xs vs → EachIs (RV F) vs ds
  | [], _, _, h, r => by cases h; cases r; exact .nil
  | d :: ds, _, _, ⟨x, t, e, h, q⟩, r => by
    subst e
    cases r with
    | cons r1 r2 => exact .cons ⟨x, r1, h⟩ (rv_each q r2)
theorem each_rv {F : Hp} : ∀ {ds : List Pd} {vs : List Value}, EachIs (RV F) vs ds → ∃ xs, DsL F ds xs ∧ Vals xs vs
  | [], _, h => by cases h; exact ⟨[], rfl, .nil⟩
  | d :: ds, _, h => by
    cases h with
    | cons h1 h2 =>
      obtain ⟨x, r, hd⟩ := h1
      obtain ⟨xs, h3, h4⟩ := each_rv h2
      exact ⟨x :: xs, ⟨x, xs, rfl, hd, h3⟩, .cons r h4⟩
section
variable {X : Cx} {U : WX}
def leD : Pd → Pd → Bool := dataLe false id
def sortD (ds : List Pd) : List Pd := ds.mergeSort leD
theorem sorted_any {pins : List (Addr × Obj)} {σ : L2.St} {F H : Hp} {s : Shared} {u : Value} {Vs : List Value → Prop} {ds : List Pd} {Q : VK} (I : Inv X pins σ H s) (sub : Sub F H)
    (coll : ∀ (R : List Value → Shared → Prop), (∀ (h' : Heap) (tk : Nat) (vs : List Value), (∀ b o, s.heap.get? b = some o → h'.get? b = some o) → Vs vs → R vs { s with heap := h', toks := tk }) → wpAny (model X.prog X.w) X.A.in1 (collect u) R X.xe s)
    (hVs : ∀ vs, Vs vs → ∃ xs, Vals xs vs ∧ DsL F ds xs) (hal : AllAlike ds) (hk : Sortable ds) (hdep : ∀ d ∈ ds, d.depth ≤ 60) (hL : ds.length ≤ sizeLine) (hu : X.A.units + 64 < cLine)
    (q : ∀ p ys, H p = none → DsL F (sortD ds) ys → Q (.ref p) (upd H p (.lst ys))) : wpAny (model X.prog X.w) X.A (call (.builtin "sorted") [u]) (EP X pins σ Q) X.xe s := by
  refine Calls.call_function_entry PyProof.Rows.kind_sorted PyProof.Rows.plain_sorted PyProof.Rows.entry_sorted (PyProof.Rows.args_sorted1 _) ?_
  unfold Builtin.«sorted»
  refine wpAny_bind (m := checkCount "sorted" 1 1 _) (wpAny_pure ?_)
  refine wpAny_bind (coll _ fun h' tk vs keep hvs => ?_)
  obtain ⟨xs, rv, rd⟩ := hVs vs hvs
  have hlen : vs.length = ds.length := by rw [← rv.length]; exact rd.len
  have I1 : Inv X pins σ H { s with heap := h', toks := tk } := I.kept keep
  refine wpAny_bind (wpAny_newList ?_ (by rw [hlen]; exact hL))
  have hoL : (h'.push (seqObj "list" vs.toArray 0)).get? h'.objs.size = some (seqObj "list" vs.toArray 0) := Heap.get?_push_size _ rfl
  show wpAny _ _ _ _ _ { s with heap := h'.push (seqObj "list" vs.toArray 0), toks := tk }
  have er : EachIs (fun v b => ∃ as, Reads (PySem.W.sortingHeap (h'.push (seqObj "list" vs.toArray 0)) h'.objs.size vs) v (id b) as) vs ds := by
    refine (rv_each rd rv).mono fun v d ⟨x, r, hd⟩ => ?_
    obtain ⟨as, hr⟩ := Dp.reads I1 d x v (Ds.mono sub d x hd).dp r
    refine ⟨as, PyProof.Rows.Reads.keeps (fun b o e => ?_) hr⟩
    have hb : b ≠ h'.objs.size := Nat.ne_of_lt (Heap.lt_size e)
    exact PySem.W.sortingHeap_old hb (Heap.get?_push_of_some _ e)
  have hal' : AllAlike (ds.map id) := by rw [List.map_id]; exact hal
  refine wpAny_bind (wpAny_holding (wpAny_call_entry PyProof.Rows.slot_list_sort ⟨_, hoL, rfl⟩ PyProof.Rows.entry_list_sort
    (PySem.W.list_sort_vals (s := { s with heap := h'.push (seqObj "list" vs.toArray 0), toks := tk }) (κ := PySem.W.dataKind (PySem.W.sortingHeap (h'.push (seqObj "list" vs.toArray 0)) h'.objs.size vs) (ds.map id)) hoL
      (PySem.W.SortsAt.data (s := { s with heap := PySem.W.sortingHeap (h'.push (seqObj "list" vs.toArray 0)) h'.objs.size vs, toks := tk }) (PySem.W.each_map (R := fun v d => ∃ as, Reads (PySem.W.sortingHeap (h'.push (seqObj "list" vs.toArray 0)) h'.objs.size vs) v d as) id er) hal' (by rw [List.map_id]; exact hk) (fun d hd => by
        rw [List.map_id] at hd
        have h1 := hdep d hd
        show X.A.units + 1 + 1 + d.depth < cLine
        omega)) (by rw [hlen]; exact hL) ⟨_, rfl, ?_⟩) (PyProof.Rows.args_list_sort _)))
  have eo := PySem.W.sortVals_data (enc := id) (R := RV F) false (rv_each rd rv) er hal'
  obtain ⟨ys, h1, h2⟩ := each_rv eo
  generalize hout : PySem.W.sortVals (PySem.W.dataKind (PySem.W.sortingHeap (h'.push (seqObj "list" vs.toArray 0)) h'.objs.size vs) (ds.map id)) false vs vs = out at *
  obtain ⟨e', he'⟩ := PyProof.Rows.sortedHeap_at (vs := vs) (out := out.toArray) hoL
  have hys : ys.length ≤ sizeLine := by rw [h1.len, List.length_mergeSort]; exact hL
  refine wpAny_pure ⟨_, rfl, .ref h'.objs.size, upd H h'.objs.size (.lst ys), I1.laid (t' := tk) (fun b o e => ?_) (Nat.le_refl _)
    (show ObjOk X.prog X.w _ _ _ (.lst ys) from ⟨hys, out, e', h2, he'⟩), rfl, q _ ys (I1.hok.fresh (Nat.le_refl _)) h1⟩
  have hb : b < h'.objs.size := Heap.lt_size e
  rw [PyProof.Rows.sortedHeap_old (Nat.ne_of_lt hb) (by rw [PyProof.Rows.size_push']; exact Nat.lt_succ_of_lt hb)]
  exact Heap.get?_push_of_some _ e
/-- the tuples of the heap frozen, too -/
def absorb (F H : Hp) : Hp := fun a => match H a with
  | some (.tup xs) => some (.tup xs)
  | _ => F a
theorem absorb_tup {F H : Hp} {a : Addr} {xs : List V} (h : H a = some (.tup xs)) : absorb F H a = some (.tup xs) := by unfold absorb; rw [h]
theorem absorb_ext {F H : Hp} (s : Sub F H) : Ext F H (absorb F H) H := by
  refine ⟨fun a o e => ?_, .refl H, fun a o e => ?_, fun a e => ?_⟩
  · have := s a o e
    unfold absorb
    rw [this]
    split
    · rename_i q; exact q.symm
    · exact e
  · unfold absorb at e
    split at e
    · rename_i xs q; rw [q]; exact e
    · exact s a o e
  · unfold absorb at e
    split at e
    · rename_i xs q; exact .inr (.inr ⟨xs, q⟩)
    · exact .inl e
inductive SrcS (K : PySem.W.Frag) (F H : Hp) (a : Addr) : List Pd → Prop
  | lst {xs : List V} {ds : List Pd} : SqL K H a xs → DsL F ds xs → SrcS K F H a ds
  | dK {kvs : List (Key × V)} : Rd H a (.dK kvs) → SrcS K F H a (kvs.map fun p => keyP p.1)
  | dT {kvs : List (List Key × V)} : Rd H a (.dT kvs) → (∀ b (ks : List Key), H b = some (.tup (ks.map kV)) → F b = some (.tup (ks.map kV))) → SrcS K F H a (kvs.map fun p => keyTP p.1)
theorem vals_each : ∀ {us : List Value} {xs : List V}, us.length = xs.length → (∀ (j : Nat) (v : Value), us[j]? = some v → ∃ x, xs[j]? = some x ∧ RelV x v) → Vals xs us
  | [], [], _, _ => .nil
  | u :: us, x :: xs, hl, h => by
    obtain ⟨y, e1, e2⟩ := h 0 u rfl
    simp at e1; subst e1
    exact .cons e2 (vals_each (by simpa using hl) fun j v e => by simpa using h (j + 1) v (by simpa using e))
  | [], _ :: _, h, _ => by simp at h
  | _ :: _, [], h, _ => by simp at h
theorem isKeys_ds {F H : Hp} (ht : ∀ b (ks : List Key), H b = some (.tup (ks.map kV)) → F b = some (.tup (ks.map kV))) : ∀ {kvs : List (List Key × V)} {bs : List Addr}, IsKeys H kvs bs → DsL F (kvs.map fun p => keyTP p.1) (bs.map V.ref)
  | [], _, h => by cases h; rfl
  | p :: kvs, _, h => by
    cases h with
    | @cons _ b _ bs h1 h2 => exact ⟨.ref b, bs.map V.ref, rfl, ⟨b, _, rfl, ht b p.1 h1, (DsL.map (f := keyP) (g := kV) ds_key).mpr rfl⟩, isKeys_ds ht h2⟩
/-- what is collected of such a thing -/
theorem coll_src (hc : X.calm = true) {pins : List (Addr × Obj)} {σ : L2.St} {F H : Hp} {s : Shared} {a : Addr} {ds : List Pd} (I : Inv X pins σ H s) (h : SrcS X.K F H a ds) (hL : ds.length ≤ sizeLine) :
    ∃ Vs : List Value → Prop, (∀ vs, Vs vs → ∃ xs, Vals xs vs ∧ DsL F ds xs) ∧ ∀ (R : List Value → Shared → Prop), (∀ (h' : Heap) (tk : Nat) (vs : List Value), (∀ b o, s.heap.get? b = some o → h'.get? b = some o) → Vs vs → R vs { s with heap := h', toks := tk }) →
      wpAny (model X.prog X.w) X.A.in1 (collect (.ref a)) R X.xe s := by
  cases h with
  | @lst xs ds h1 h2 =>
    obtain ⟨its, rv, pl, hz⟩ := I.list h1
    refine ⟨fun vs => vs = its, fun vs e => ⟨xs, by rw [e]; exact rv, h2⟩, fun R hR => ?_⟩
    have hl : s.heap.IsList a its.toArray := pl.isList
    refine collect_list hl (hR _ s.toks its (fun b o e => ?_) rfl) (by rw [← rv.length]; exact hz)
    have hb : b ≠ s.heap.objs.size := Nat.ne_of_lt (Heap.lt_size e)
    rw [Heap.get?_update_ne _ _ _ _ hb]
    exact Heap.get?_push_of_some _ e
  | @dK kvs hd =>
    obtain ⟨z, lo, vs, rel, dd⟩ := dk_rd I.hok hd
    obtain ⟨ep, hat⟩ := dd.dictAt
    refine ⟨fun us => Vals (kvs.map fun p => kV p.1) us, fun us e => ⟨_, e, ?_⟩, fun R hR => ?_⟩
    · rw [show (kvs.map fun p => keyP p.1) = (kvs.map (·.1)).map keyP by rw [List.map_map]; rfl, show (kvs.map fun p => kV p.1) = (kvs.map (·.1)).map kV by rw [List.map_map]; rfl]
      exact (DsL.map (f := keyP) (g := kV) ds_key).mpr rfl
    · refine PySem.W.kdu_collect (A := X.A.in1) (PySem.W.kdl_dict (knd := mixKind X.prog X.w) (kvs := vs) (ep := ep) lo) (I.ok.hd hc) hat (by rw [← rel.length]; exact z) fun h' tk acc hk hacc => hR h' tk _ hk ?_
      refine vals_each (by rw [Array.length_toList, hacc.1, List.length_map]; exact rel.length.symm) fun j v e => ?_
      obtain ⟨k, x, e1, e2⟩ := hacc.2 j v (by rw [← Array.getElem?_toList]; exact e)
      have hkeys : vs.map (·.1) = kvs.map (·.1) := rel.keys.symm
      have e3 : (kvs.map (·.1))[j]? = some k := by rw [← hkeys, List.getElem?_map, e1]; rfl
      refine ⟨kV k, ?_, ?_⟩
      · rw [show (kvs.map fun p => kV p.1) = (kvs.map (·.1)).map kV by rw [List.map_map]; rfl, List.getElem?_map, e3]; rfl
      · have e2 : keyIs k v = true := e2
        rcases keyIs_shape e2 with ⟨i, t, ek, ev⟩ | ⟨y, t, ek, ev⟩
        · subst ek ev; exact ⟨t, rfl⟩
        · subst ek ev; exact ⟨t, rfl⟩
  | @dT kvs hd ht =>
    obtain ⟨z, hs, ks, pr, o, es, ep, ho, hx, hdt, he, hn⟩ := (show ObjOk X.prog X.w H s.heap a (.dT kvs) from hd.ok I.hok)
    have l1 : es.size = ks.length := size_of_entries he
    have l2 : kvs.length = ks.length := Paired.length pr
    refine ⟨fun us => us = (ks.map fun x => x.2.1).map Value.ref, fun us e => ⟨(ks.map fun x => x.2.1).map V.ref, by rw [e]; exact vals_refs _, isKeys_ds ht (isKeys_of pr)⟩, fun R hR => ?_⟩
    refine PySem.W.kdu_collect (A := X.A.in1) (kdl_raw hs hx hdt) (I.ok.hd hc) ho (by omega) fun h' tk acc' kp it => hR h' tk _ kp ?_
    rw [List.map_map]
    have hl : acc'.toList.length = ks.length := by rw [Array.length_toList, it.1]; exact l1
    apply List.ext_getElem?
    intro j
    rw [List.getElem?_map]
    cases hj : acc'.toList[j]? with
    | none =>
      have h1 := List.getElem?_eq_none_iff.mp hj
      rw [List.getElem?_eq_none (by omega)]
      all_goals rfl
    | some v =>
      obtain ⟨en, hen, hv⟩ := it.2 j v (by rw [← Array.getElem?_toList]; exact hj)
      have qe := entry_at he j
      rw [hen] at qe
      cases hb : ks[j]? with
      | none =>
        rw [hb] at qe
        exact nomatch (show some en = none from qe)
      | some b =>
        rw [hb] at qe
        have e2 : en = entryOfKey (tupleKind (mixKind X.prog X.w)) b := Option.some.inj qe
        rw [hv, e2]
        all_goals rfl
/-! ### sorted(..) -/
def okS (ds : List Pd) : Prop := AllAlike ds ∧ Sortable ds ∧ (∀ d ∈ ds, d.depth ≤ 60) ∧ ds.length ≤ sizeLine
noncomputable instance (ds : List Pd) : Decidable (okS ds) := Classical.propDecidable _
/-- the items of what is walked as a whole -/
def srcD : W → Option (List Pd)
  | .dat (.list ds) => some ds
  | .dK kvs => some (kvs.map fun p => keyP p.1)
  | .dT kvs => some (kvs.map fun p => keyTP p.1)
  | _ => none
theorem KvP.keysK {F : Hp} {κ : Type} {β : Type} {kvs : List (κ × Pd)} {ks : List (κ × V)} (h : KvP F kvs ks) (f : κ → β) : (ks.map fun p => f p.1) = kvs.map fun p => f p.1 := by
  rw [show (ks.map fun p => f p.1) = (ks.map (·.1)).map f by rw [List.map_map]; rfl, h.1, List.map_map]; rfl
theorem RB.src {K : PySem.W.Frag} {mg : Str → Option Value} {F H : Hp} (s : Sub F H) {w : W} {v : V} {ds : List Pd} (h : RB K mg F H w v) (e : srcD w = some ds) : ∃ a, v = .ref a ∧ SrcS K (absorb F H) H a ds := by
  cases w with
  | dat d =>
    cases d with
    | list es => cases e; obtain ⟨a, xs, rfl, h1, h2⟩ := h; exact ⟨a, rfl, .lst (.of h1) (h2.mono (absorb_ext s).ff)⟩
    | none => cases e
    | bool _ => cases e
    | int _ => cases e
    | str _ => cases e
    | tuple _ => cases e
    | dict _ => cases e
  | kdat _ => cases e
  | dK kvs => cases e; obtain ⟨a, ks, rfl, h1, h2⟩ := h; refine ⟨a, rfl, ?_⟩; rw [← h2.keysK]; exact .dK h1
  | dT kvs => cases e; obtain ⟨a, ks, rfl, h1, h2⟩ := h; refine ⟨a, rfl, ?_⟩; rw [← h2.keysK]; exact .dT h1 fun b ks hb => absorb_tup hb
  | fn _ => cases e
  | obj _ _ => cases e
noncomputable def pSorted : List W → R W
  | [w] => match srcD w with
    | some ds => if okS ds then .ok (.dat (.list (sortD ds))) else .no
    | none => .no
  | _ => .no
def rSrt (X : Cx) : List V → Hp → VK → Prop := fun vs H Q => ∃ F a ds, vs = [V.ref a] ∧ Sub F H ∧ SrcS X.K F H a ds ∧ okS ds ∧ ∀ p ys, H p = none → DsL F (sortD ds) ys → Q (.ref p) (upd H p (.lst ys))
theorem cr_srt (hc : X.calm = true) (hu : X.A.units + 64 < cLine) : CallR X (.builtin "sorted") (rSrt X) := by
  intro pins s σ H vs us Q I r h
  obtain ⟨F, a, ds, rfl, sub, src, ⟨h1, h2, h3, h4⟩, q⟩ := h
  obtain ⟨u, rfl, rx⟩ := vals1 r
  cases rx
  obtain ⟨Vs, hVs, coll⟩ := coll_src hc I src h4
  exact sorted_any I sub coll hVs h1 h2 h3 h4 hu q
theorem cal_sorted (hc : X.calm = true) (hu : X.A.units + 64 < cLine) : VCal X (.builtin "sorted") pSorted := .mk (cr_srt hc hu) fun F H xs ws Q s rb q => by
  unfold pSorted at q
  split at q
  · split at q
    · rename_i ds hds
      obtain ⟨hok, q⟩ := run_if q
      obtain ⟨v, r, rfl, h0, h3⟩ := rb
      cases h3
      obtain ⟨a, rfl, src⟩ := h0.src s hds
      have e1 := absorb_ext s
      exact ⟨absorb F H, a, ds, rfl, e1.sub, src, hok, fun p ys hp hy => q _ _ _ (e1.trans (.new e1.sub hp)) ⟨p, ys, rfl, upd_same, hy.mono (.upd (e1.sub.nn hp))⟩⟩
    · exact q.elim
  · exact q.elim
theorem nx_pSorted : NoxL pSorted := fun ws c => by
  unfold pSorted
  split
  · split
    · split <;> (intro h; cases h)
    · intro h; cases h
  · intro h; cases h
end
end Vd

/-! Val12: more built-ins. -/
namespace Vd
open L2 PyProof.Rows PySem PySem.Spec
def allS : List Pd → Option (List Str)
  | [] => some []
  | .str x :: r => (allS r).map (x :: ·)
  | _ :: _ => none
theorem allS_rep {F : Hp} : ∀ {ds : List Pd} {xs : List V} {bs : List Str}, DsL F ds xs → allS ds = some bs → xs = bs.map V.str
  | [], _, _, h, e => by cases h; cases e; rfl
  | .str i :: r, _, ns, ⟨x, t, e1, h, q⟩, e => by
    unfold allS at e
    cases z : allS r with
    | none => rw [z] at e; cases e
    | some ms =>
      rw [z] at e; cases e
      rw [e1, h, allS_rep q z]; rfl
  | .none :: _, _, _, _, e => by cases e
  | .int _ :: _, _, _, _, e => by cases e
  | .bool _ :: _, _, _, _, e => by cases e
  | .list _ :: _, _, _, _, e => by cases e
  | .tuple _ :: _, _, _, _, e => by cases e
  | .dict _ :: _, _, _, _, e => by cases e
def seqD : W → Option (List Pd)
  | .dat (.list ds) => some ds
  | .dat (.tuple ds) => some ds
  | _ => none
def strA : W → Option Str
  | .dat (.str x) => some x
  | _ => none
/-- a method of a text, of one argument -/
def fS1 (h : Str → W → R W) (f g : Rho → R W) : Rho → R W := fun ρ => (f ρ).bind fun x => match strA x with
  | some z => (g ρ).bind fun y => h z y
  | none => .no
def pJoin (a : Str) (b : W) : R W := match (seqD b).bind allS with
  | some ys => if (ys.map (·.length)).sum + ys.length * a.length ≤ 16777216 then .ok (.dat (.str (Txt.join a ys))) else .no
  | none => .no
theorem strA_rep {K : PySem.W.Frag} {mg : Str → Option Value} {F H : Hp} {w : W} {v : V} {z : Str} (r : RB K mg F H w v) (e : strA w = some z) : v = .str z := by
  unfold strA at e
  split at e
  · cases e; exact r
  · cases e
section
variable {X : Cx} {U : WX}
def NoxS (h : Str → W → R W) : Prop := ∀ a b c, h a b ≠ .ex c
/-- such a method's reading -/
theorem m1_core {r : V → List V → Hp → VK → Prop} {h : Str → W → R W} (nx : NoxS h) (hr : ∀ F H z b y (Q : VK), Sub F H → RB X.K X.mg F H b y → run (h z b) (fun w => ∀ v F' H', Ext F H F' H' → RpW X.K X.mg F' w v → Q v H') (fun _ => False) → r (.str z) [y] H Q)
    {f g : Rho → R W} {σ : L2.St} {H : Hp} {Q : VK} (q : tE X U (fS1 h f g) σ H Q) : tM1 r (tB X U f) (tB X U g) σ H Q := by
  obtain ⟨B, ρ, F, k, q⟩ := q
  unfold fS1 at q
  rw [run_bind] at q
  refine ⟨B, ρ, F, k, run_mono q (fun a _ q x F1 H1 e1 r1 => ?_) fun _ q => q⟩
  cases y : strA a with
  | none => rw [y] at q; exact q.elim
  | some z =>
    rw [y] at q
    have hx := strA_rep r1 y
    refine ⟨⟨z, hx⟩, ?_⟩
    rw [hx]
    have q : run ((g ρ).bind fun y => h z y) _ _ := q
    rw [run_bind] at q
    refine ⟨B, ρ, F1, k.ext e1, run_mono q (fun b _ q y F2 H2 e2 r2 => ?_) fun c q C H' h1 h2 => q C H' h1 (e1.hh.trans h2)⟩
    exact hr F2 H2 z b y Q e2.sub r2 (run_nox (X := X) (U := U) (σ := σ) (H := H2) (fun c => nx z b c) (run_mono q (fun w _ q v F' H' e r => q v F' H' ((e1.trans e2).trans e) r) fun c q C H' h1 h2 => q C H' h1 ((e1.trans e2).hh.trans h2)))
theorem ve_join {o e : Expr} {f g : Rho → R W} {apos pos : Pos} (ho : VB X U o f) (he : VB X U e g) (hs : starEach [e] X.env = [(false, eval e X.env)] := by rfl) (hbase : attributeBase o "join" X.env (eval o X.env) = eval o X.env := by rfl) (hline : (apos.endLine == pos.line) = true := by rfl) :
    VE X U (.Call (.Attribute o "join" apos) [e] [] pos) (fS1 pJoin f g) := PE.imp (pe_join ho he hs hbase hline) fun σ H Q q => m1_core (fun a b c => by unfold pJoin; split <;> first | (intro h; cases h; done) | (split <;> (intro h; cases h))) (fun F H z b y Q s rb q => by
  unfold pJoin at q
  split at q
  · rename_i ys hys
    obtain ⟨hl, q⟩ := run_if q
    cases b with
    | dat d =>
      cases d with
      | list ds =>
        obtain ⟨a, xs, rfl, h1, h2⟩ := rb
        have e := allS_rep h2 hys
        subst e
        exact ⟨z, a, ys, rfl, rfl, .inl (.of h1), hl, q _ F H (.refl s) rfl⟩
      | tuple ds =>
        obtain ⟨a, xs, rfl, h1, h2⟩ := rb
        have e := allS_rep h2 hys
        subst e
        exact ⟨z, a, ys, rfl, rfl, .inr (.of (s _ _ h1)), hl, q _ F H (.refl s) rfl⟩
      | none => cases hys
      | bool _ => cases hys
      | int _ => cases hys
      | str _ => cases hys
      | dict _ => cases hys
    | kdat _ => cases hys
    | dK _ => cases hys
    | dT _ => cases hys
    | fn _ => cases hys
    | obj _ _ => cases hys
  · exact q.elim) q
end
end Vd

/-! Val13: what the printer names. -/
namespace Vd
open L2 PyProof.Rows PySem PySem.Spec
def wS (l : List Nat) : W := .dat (.str (S l))
theorem _root_.L2.Room.units65 {k : Nat} {A : Around} (r : Room k A) : A.units + 65 < cLine := by have := r.un; omega
def gFrz (i : Nat) (g : Rho → R Out) : Rho → R Out := fun ρ => g (frzAt i ρ)
def gKill (is : List Nat) (g : Rho → R Out) : Rho → R Out := fun ρ => g (killAt is ρ)
def gThenKill (is : List Nat) (g : Rho → R Out) : Rho → R Out := fun ρ => (g ρ).bind fun
  | .nx ρ' => .ok (.nx (killAt is ρ'))
  | .rt w => .ok (.rt w)
  | .ro w ρ' => .ok (.ro w ρ')
  | .rn c fs => .ok (.rn c fs)
def gThenFrz (i : Nat) (g : Rho → R Out) : Rho → R Out := fun ρ => (g ρ).bind fun
  | .nx ρ' => .ok (.nx (frzAt i ρ'))
  | .rt w => .ok (.rt w)
  | .ro w ρ' => .ok (.ro w ρ')
  | .rn c fs => .ok (.rn c fs)
section
variable {X : Cx} {U : WX}
theorem vs_kill (is : List Nat) {s : Stmt} {g : Rho → R Out} (h : VS X U s g) : VS X U s (gKill is g) := PS.imp h fun D σ H ⟨B, ρ, F, k, q⟩ => ⟨B, _, F, k.killL is, q⟩
theorem thenKill_core (is : List Nat) {g : Rho → R Out} {D : Ends} {σ : L2.St} {H : Hp} (h : tS X U (gThenKill is g) D σ H) : tS X U g D σ H := by
  obtain ⟨B, ρ, F, k, q⟩ := h
  unfold gThenKill at q
  rw [run_bind] at q
  refine ⟨B, ρ, F, k, run_mono q (fun o _ q => ?_) fun _ q => q⟩
  cases o with
  | nx ρ' => exact fun F' σ' H' k' => q F' σ' H' (k'.killL is)
  | rt w => exact q
  | ro w ρ' => exact q
  | rn c fs => exact q
theorem vss_thenKill (is : List Nat) {s : List Stmt} {g : Rho → R Out} (h : VSs X U s g) : VSs X U s (gThenKill is g) := PSs.imp h fun D σ H q => thenKill_core is q
theorem vs_thenFrz (i : Nat) {s : Stmt} {g : Rho → R Out} (h : VS X U s g) : VS X U s (gThenFrz i g) := ⟨fun pins sh σ H D I ⟨B, ρ, F, k, q⟩ => by
  unfold gThenFrz at q
  rw [run_bind] at q
  refine thn (h.run pins sh σ H { D with nx := fun σ' H' => ∃ ρ' F', EnvOk X.K X.mg B ρ' F' σ' H' ∧ ∀ F2 H2, EnvOk X.K X.mg B (frzAt i ρ') F2 σ' H2 → D.nx σ' H2 } I ⟨B, ρ, F, k, run_mono q (fun o _ q => ?_) fun _ q => q⟩) fun f s1 q => ?_
  · cases o with
    | nx ρ' => exact fun F' σ' H' k' => ⟨ρ', F', k', fun F2 H2 k2 => q F2 σ' H2 k2⟩
    | rt w => exact q
    | ro w ρ' => exact q
    | rn c fs => exact q
  · cases f with
    | next =>
      obtain ⟨σ', H', I2, ρ', F', k', q⟩ := q
      obtain ⟨F2, H2, k2, I3⟩ := k'.frzI I2 i
      exact ⟨σ', H2, I3, q F2 H2 k2⟩
    | brk => exact q
    | cont => exact q
    | ret v => exact q⟩
end
/-- the text's facts: an exception class, a def, a constant -/
structure ExcK (K : PySem.W.Frag) (mg : Str → Option Value) (x : Str) : Prop where
  ex : ∃ C, mg x = some (.ref C) ∧ PySem.W.excIn K C [.type "ValueError", .type "Exception", .type "BaseException", .type "object"] "ValueError.__new__" = true ∧ PySem.W.keepIn K (.ref C) = true ∧
    PySem.W.subIn K (.ref C) (.type "BaseException") = some true ∧ PySem.W.typeIn K (.ref C) = some (.type "type")
theorem ExcK.at {X : Cx} {x : Str} (h : ExcK X.K X.mg x) : ExcF X x := ⟨h.ex⟩
structure DefK (K : PySem.W.Frag) (mg : Str → Option Value) (x : Str) (st : Stmt) (ps : List Str) : Prop where
  ex : ∃ f fd, Fun K x x st f fd ∧ mg x = some (.ref f) ∧ Binds K fd ps []
def ConK (K : PySem.W.Frag) (mg : Str → Option Value) (x : Str) (w : W) : Prop := ∃ u v, mg x = some u ∧ RelV v u ∧ ∀ F, RpW K mg F w v
end Vd

/-! Val14: small things the printer names. -/
namespace Vd
open L2 PyProof.Rows PySem PySem.Spec
theorem takes0 {X : Cx} : L2N.Takes X NoU := fun u s' ⟨a, B, sI, pins, σ, H, cls, d, e, I, nb, up, sky, na, os, ag, w⟩ => w.elim
end Vd

/-! Val15: encoders of boards and cells; what the primitives answer on them. -/
namespace Vd
open L2 PyProof.Rows PySem PySem.Spec
abbrev C2 := Int × Int
def pC (c : C2) : Pd := .tuple [.int c.1, .int c.2]
def wC (c : C2) : W := .dat (pC c)
def pR (r : List Nat) : Pd := .str (S r)
def wR (r : List Nat) : W := .dat (pR r)
def pB (b : List (List Nat)) : Pd := .tuple (b.map pR)
def wB (b : List (List Nat)) : W := .dat (pB b)
def pCs (l : List C2) : Pd := .list (l.map pC)
def wCs (l : List C2) : W := .dat (pCs l)
def kC (c : C2) : List Key := [Sum.inl c.1, Sum.inl c.2]
def wN : W := .dat .none
theorem bindok {α β : Type} (a : α) (k : α → R β) : (R.ok a).bind k = k a := rfl
theorem bindex {α β : Type} (c : Str) (k : α → R β) : (R.ex c : R α).bind k = .ex c := rfl
theorem bindno {α β : Type} (k : α → R β) : (R.no : R α).bind k = .no := rfl
theorem noEx_ok {α : Type} (a : α) : noEx (R.ok a) = .ok a := rfl
theorem tb_bv (b : Bool) : tb (bv b) = .ok b := rfl
theorem asDat_dat (d : Pd) : asDat (.dat d) = .ok d := rfl
theorem asDat_wC (c : C2) : asDat (wC c) = .ok (pC c) := rfl
theorem asDat_wI (i : Int) : asDat (wI i) = .ok (.int i) := rfl
theorem asDat_bv (b : Bool) : asDat (bv b) = .ok (.bool b) := rfl
theorem asDat_wR (r : List Nat) : asDat (wR r) = .ok (pR r) := rfl
theorem asDat_wS (r : List Nat) : asDat (wS r) = .ok (pR r) := rfl
theorem asDat_wN : asDat wN = .ok .none := rfl
theorem pds_nil : pds [] = .ok [] := rfl
theorem pds_dat (d : Pd) (ws : List W) : pds (.dat d :: ws) = (pds ws).bind fun ds => .ok (d :: ds) := rfl
theorem pds_wI (i : Int) (ws : List W) : pds (wI i :: ws) = (pds ws).bind fun ds => .ok (.int i :: ds) := rfl
theorem pds_wC (i : C2) (ws : List W) : pds (wC i :: ws) = (pds ws).bind fun ds => .ok (pC i :: ds) := rfl
theorem pds_wR (i : List Nat) (ws : List W) : pds (wR i :: ws) = (pds ws).bind fun ds => .ok (pR i :: ds) := rfl
theorem pds_bv (i : Bool) (ws : List W) : pds (bv i :: ws) = (pds ws).bind fun ds => .ok (.bool i :: ds) := rfl
theorem Slen (r : List Nat) : (S r).length = r.length := by simp [S, Str.length]
theorem Scps (r : List Nat) : (S r).cps.toList = r := rfl
theorem S_inj {a b : List Nat} : S a = S b ↔ a = b := by
  constructor
  · intro h; have := congrArg (fun s => s.cps.toList) h; exact this
  · rintro rfl; rfl
theorem pAdd_I (i j : Int) : pAdd (wI i) (wI j) = .ok (wI (i + j)) := rfl
theorem pSub_I (i j : Int) : pSub (wI i) (wI j) = .ok (wI (i - j)) := rfl
theorem pMul_I (i j : Int) : pMul (wI i) (wI j) = if CMul i j then .ok (wI (i * j)) else .no := rfl
theorem pDiv_I (i j : Int) : pDiv (wI i) (wI j) = if CDiv i j then .ok (wI (i / j)) else .no := rfl
theorem pMod_I (i j : Int) : pMod (wI i) (wI j) = if 0 < j then .ok (wI (i % j)) else .no := rfl
theorem pNeg_I (i : Int) : pNeg (wI i) = .ok (wI (-i)) := rfl
theorem pCmp_I (p : Int → Int → Bool) (i j : Int) : pCmp p (wI i) (wI j) = .ok (bv (p i j)) := rfl
theorem asI_I (i : Int) : asI (wI i) = .ok (some i) := rfl
/-! ### lengths -/
theorem pLen_B (b : List (List Nat)) : pLen [wB b] = .ok (wI b.length) := by simp [pLen, wB, pB]
theorem pLen_Cs (b : List C2) : pLen [wCs b] = .ok (wI b.length) := by simp [pLen, wCs, pCs]
theorem pLen_C (c : C2) : pLen [wC c] = .ok (wI 2) := rfl
theorem pLen_R (r : List Nat) (h : r.length ≤ sizeLine) : pLen [wR r] = .ok (wI r.length) := by
  simp only [pLen, wR, pR, Slen]; rw [if_pos h]
theorem pLen_S (r : List Nat) (h : r.length ≤ sizeLine) : pLen [wS r] = .ok (wI r.length) := pLen_R r h
/-! ### places -/
theorem ixN_nat {n k : Nat} (h : k < n) : ixN n (k : Int) = some k := by unfold ixN; rw [if_pos (by omega), if_pos (by omega)]; simp
theorem ixN_pos {n : Nat} {i : Int} (h0 : 0 ≤ i) (h : i < n) : ixN n i = some i.toNat := by unfold ixN; rw [if_pos h0, if_pos h]
theorem atI_pos {α : Type} {xs : List α} {i : Int} (h0 : 0 ≤ i) (h : i < xs.length) : atI xs i = xs[i.toNat]? := by unfold atI; rw [ixN_pos h0 h]; rfl
theorem atI_zero {α : Type} (x : α) (xs : List α) : atI (x :: xs) 0 = some x := by rw [atI_pos (by omega) (by simp)]; rfl
theorem atI_last {α : Type} (xs : List α) (h : xs ≠ []) : atI xs (-1) = some (xs.getLast h) := by
  have hl : 0 < xs.length := List.length_pos_iff.mpr h
  unfold atI ixN
  rw [if_neg (by omega), if_pos (by omega)]
  show xs[((-1 : Int) + (xs.length : Int)).toNat]? = _
  rw [show ((-1 : Int) + (xs.length : Int)).toNat = xs.length - 1 by omega, List.getLast_eq_getElem, List.getElem?_eq_getElem (by omega)]
theorem pGet_B (b : List (List Nat)) (i : Int) (h0 : 0 ≤ i) (h : i < b.length) : pGet (wB b) (wI i) = .ok (wR (b.getD i.toNat [])) := by
  show optW .dat (atI (b.map pR) i) = _
  rw [atI_pos h0 (by simpa using h), List.getElem?_map, List.getElem?_eq_getElem (by omega)]
  rw [List.getD_eq_getElem?_getD, List.getElem?_eq_getElem (by omega)]; rfl
theorem pGet_R (r : List Nat) (i : Int) (h0 : 0 ≤ i) (h : i < r.length) (hs : r.length ≤ sizeLine) : pGet (wR r) (wI i) = .ok (wS [r.getD i.toNat 0]) := by
  show (if (S r).length ≤ sizeLine then _ else _) = _
  rw [if_pos (by rw [Slen]; exact hs), Scps, atI_pos h0 h, List.getElem?_eq_getElem (by omega), List.getD_eq_getElem?_getD, List.getElem?_eq_getElem (by omega)]; rfl
theorem pGet_C0 (c : C2) : pGet (wC c) (wI 0) = .ok (wI c.1) := rfl
theorem pGet_C1 (c : C2) : pGet (wC c) (wI 1) = .ok (wI c.2) := rfl
theorem pGet_K0 (i j : Int) : pGet (.kdat (.tuple [.int i, .int j])) (wI 0) = .ok (wI i) := rfl
theorem pGet_K1 (i j : Int) : pGet (.kdat (.tuple [.int i, .int j])) (wI 1) = .ok (wI j) := rfl
theorem pGet_Cs (l : List C2) (i : Int) (h0 : 0 ≤ i) (h : i < l.length) : pGet (wCs l) (wI i) = .ok (wC (l.getD i.toNat (0, 0))) := by
  show optW .dat (atI (l.map pC) i) = _
  rw [atI_pos h0 (by simpa using h), List.getElem?_map, List.getElem?_eq_getElem (by omega)]
  rw [List.getD_eq_getElem?_getD, List.getElem?_eq_getElem (by omega)]; rfl
theorem pGet_Cs0 (c : C2) (l : List C2) : pGet (wCs (c :: l)) (wI 0) = .ok (wC c) := by
  show optW .dat (atI (pC c :: l.map pC) 0) = _
  rw [atI_zero]; rfl
theorem pGet_CsL (l : List C2) (h : l ≠ []) : pGet (wCs l) (wI (-1)) = .ok (wC (l.getLast h)) := by
  show optW .dat (atI (l.map pC) (-1)) = _
  rw [atI_last _ (by simpa using h), List.getLast_map]; rfl
/-! ### equality -/
theorem eqv_I (i j : Int) : PyData.eqv (.int i) (.int j) = decide (i = j) := by simp only [PyData.eqv]; rfl
theorem eqv_C (c d : C2) : PyData.eqv (pC c) (pC d) = decide (c = d) := by
  simp only [pC, PyData.eqv, PyData.eqvAll]
  rw [Bool.eq_iff_iff]
  simp [Prod.ext_iff]
theorem eqv_R (r s : List Nat) : PyData.eqv (pR r) (pR s) = decide (r = s) := by
  simp only [pR, PyData.eqv]
  rw [Bool.eq_iff_iff]; simp
theorem eqvAll_map {α : Type} [DecidableEq α] (e : α → Pd) (he : ∀ a b, PyData.eqv (e a) (e b) = decide (a = b)) : ∀ l m : List α, PyData.eqvAll (l.map e) (m.map e) = decide (l = m)
  | [], [] => by simp [PyData.eqvAll]
  | a :: l, [] => by simp [PyData.eqvAll]
  | [], b :: m => by simp [PyData.eqvAll]
  | a :: l, b :: m => by
    simp only [List.map_cons, PyData.eqvAll, he, eqvAll_map e he l m]
    rw [Bool.eq_iff_iff]; simp
theorem eqv_Cs (l m : List C2) : PyData.eqv (pCs l) (pCs m) = decide (l = m) := by simp only [pCs, PyData.eqv]; exact eqvAll_map pC eqv_C l m
theorem eqv_B (l m : List (List Nat)) : PyData.eqv (pB l) (pB m) = decide (l = m) := by simp only [pB, PyData.eqv]; exact eqvAll_map pR eqv_R l m
theorem depthAll_map {α : Type} (e : α → Pd) (n : Nat) (he : ∀ a, (e a).depth ≤ n) : ∀ l : List α, PyData.depthAll (l.map e) ≤ n
  | [] => by simp [PyData.depthAll]
  | a :: l => by simp only [List.map_cons, PyData.depthAll]; have := he a; have := depthAll_map e n he l; omega
theorem layAll_map {α : Type} (e : α → Pd) : ∀ (l : List α), (∀ a ∈ l, (e a).canLay0 = true) → PyData.canLayAll0 (l.map e) = true
  | [], _ => by simp [PyData.canLayAll0]
  | a :: l, h => by simp only [List.map_cons, PyData.canLayAll0, h a List.mem_cons_self, layAll_map e l (fun b hb => h b (List.mem_cons_of_mem _ hb))]; rfl
def okR (r : List Nat) : Prop := ∀ c ∈ r, c < 0x110000
theorem sh_mk {d : Pd} (h : d.canLay0 = true) (h2 : d.depth ≤ 64) : SeqAt.shaped d = true := by unfold SeqAt.shaped; simp [h, h2]
theorem lay_C (c : C2) : (pC c).canLay0 = true := by simp [pC, PyData.canLay0, PyData.canLayAll0]
theorem dep_C (c : C2) : (pC c).depth ≤ 1 := by simp [pC, PyData.depth, PyData.depthAll]
theorem lay_R {r : List Nat} (h : okR r) : (pR r).canLay0 = true := by
  simp only [pR, PyData.canLay0, PyData.strOk]
  rw [← Array.all_toList, List.all_eq_true]
  intro x hx
  exact decide_eq_true (h x hx)
theorem dep_R (r : List Nat) : (pR r).depth ≤ 0 := by simp [pR, PyData.depth]
theorem lay_Cs (l : List C2) : (pCs l).canLay0 = true := by simp only [pCs, PyData.canLay0]; exact layAll_map pC l fun a _ => lay_C a
theorem dep_Cs (l : List C2) : (pCs l).depth ≤ 2 := by simp only [pCs, PyData.depth]; have := depthAll_map pC 1 dep_C l; omega
theorem lay_B {b : List (List Nat)} (h : ∀ r ∈ b, okR r) : (pB b).canLay0 = true := by simp only [pB, PyData.canLay0]; exact layAll_map pR b fun a ha => lay_R (h a ha)
theorem dep_B (l : List (List Nat)) : (pB l).depth ≤ 1 := by simp only [pB, PyData.depth]; have := depthAll_map pR 0 dep_R l; omega
theorem sh_I (i : Int) : SeqAt.shaped (.int i) = true := sh_mk (by simp [PyData.canLay0]) (by simp [PyData.depth])
theorem sh_C (c : C2) : SeqAt.shaped (pC c) = true := sh_mk (lay_C c) (by have := dep_C c; omega)
theorem sh_Cs (c : List C2) : SeqAt.shaped (pCs c) = true := sh_mk (lay_Cs c) (by have := dep_Cs c; omega)
theorem sh_R {r : List Nat} (h : okR r) : SeqAt.shaped (pR r) = true := sh_mk (lay_R h) (by have := dep_R r; omega)
theorem sh_B {b : List (List Nat)} (h : ∀ r ∈ b, okR r) : SeqAt.shaped (pB b) = true := sh_mk (lay_B h) (by have := dep_B b; omega)
theorem pEq_mk {n : Bool} {d e : Pd} {p : Prop} [Decidable p] (h : SeqAt.shaped d = true) (h2 : SeqAt.shaped e = true) (he : PyData.eqv d e = decide p) : pEq n (.dat d) (.dat e) = .ok (bv (if n = true then decide (¬ p) else decide p)) := by
  show (if SeqAt.shaped d = true ∧ SeqAt.shaped e = true then _ else _) = _
  rw [if_pos ⟨h, h2⟩, he]
  cases n <;> by_cases q : p <;> simp [q]
theorem pEq_I (n : Bool) (i j : Int) : pEq n (wI i) (wI j) = .ok (bv (if n = true then decide (¬ i = j) else decide (i = j))) := pEq_mk (sh_I i) (sh_I j) (eqv_I i j)
theorem pEq_C (n : Bool) (i j : C2) : pEq n (wC i) (wC j) = .ok (bv (if n = true then decide (¬ i = j) else decide (i = j))) := pEq_mk (sh_C i) (sh_C j) (eqv_C i j)
theorem pEq_Cs (n : Bool) (i j : List C2) : pEq n (wCs i) (wCs j) = .ok (bv (if n = true then decide (¬ i = j) else decide (i = j))) := pEq_mk (sh_Cs i) (sh_Cs j) (eqv_Cs i j)
theorem pEq_R (n : Bool) {i j : List Nat} (h : okR i) (h2 : okR j) : pEq n (wR i) (wR j) = .ok (bv (if n = true then decide (¬ i = j) else decide (i = j))) := pEq_mk (sh_R h) (sh_R h2) (eqv_R i j)
theorem pEq_B (n : Bool) {i j : List (List Nat)} (h : ∀ r ∈ i, okR r) (h2 : ∀ r ∈ j, okR r) : pEq n (wB i) (wB j) = .ok (bv (if n = true then decide (¬ i = j) else decide (i = j))) := pEq_mk (sh_B h) (sh_B h2) (eqv_B i j)
theorem sh_bl (i : Bool) : SeqAt.shaped (.bool i) = true := sh_mk (by simp [PyData.canLay0]) (by simp [PyData.depth])
theorem pEq_bl (n : Bool) (i j : Bool) : pEq n (bv i) (bv j) = .ok (bv (if n = true then decide (¬ i = j) else decide (i = j))) := pEq_mk (sh_bl i) (sh_bl j) (by simp only [PyData.eqv]; cases i <;> cases j <;> rfl)
/-! ### in -/
theorem pIn_Cs (n : Bool) (c : C2) (l : List C2) : pInW n (wC c) (wCs l) = .ok (bv (if n = true then decide (¬ c ∈ l) else decide (c ∈ l))) := by
  have h : pIn (wC c) (wCs l) = .ok (decide (c ∈ l)) := by
    show (if SeqAt.shaped (pC c) = true ∧ SeqAt.shaped (pCs l) = true then _ else _) = _
    rw [if_pos ⟨sh_C c, sh_Cs l⟩]
    congr 1
    rw [Bool.eq_iff_iff]
    simp only [List.any_map, List.any_eq_true, decide_eq_true_eq, Function.comp_apply, eqv_C]
    constructor
    · rintro ⟨x, h1, rfl⟩; exact h1
    · intro h1; exact ⟨c, h1, rfl⟩
  unfold pInW; rw [h]
  show R.ok (bv _) = _
  cases n <;> by_cases q : c ∈ l <;> simp [q]
theorem pIn_S (n : Bool) (c : Nat) (l : List Nat) : pInW n (wS [c]) (wS l) = .ok (bv (if n = true then decide (¬ c ∈ l) else decide (c ∈ l))) := by
  show R.ok (bv (if n = true then !(decide (c ∈ l)) else decide (c ∈ l))) = _
  cases n <;> by_cases q : c ∈ l <;> simp [q]
theorem pIn_48 (n : Bool) (i : Int) : pInW n (wI i) (.dat (.tuple [.int 4, .int 8])) = .ok (bv (if n = true then decide (¬ (i = 4 ∨ i = 8)) else decide (i = 4 ∨ i = 8))) := by
  show R.ok (bv (if n = true then !(decide (i ∈ [(4 : Int), 8])) else decide (i ∈ [(4 : Int), 8]))) = _
  cases n <;> by_cases q : i = 4 ∨ i = 8 <;> simp [q]
/-! ### dicts of cells -/
section
variable {α : Type} (e : α → Pd)
def dCs (f : List (C2 × α)) : List (List Key × Pd) := f.map fun p => (kC p.1, e p.2)
theorem kC_inj {a b : C2} : kC a = kC b ↔ a = b := by
  unfold kC
  constructor
  · intro h; simp at h; exact Prod.ext h.1 h.2
  · rintro rfl; rfl
def lkC (f : List (C2 × α)) (c : C2) : Option α := (f.find? fun p => decide (p.1 = c)).map (·.2)
theorem lk_C : ∀ (f : List (C2 × α)) (c : C2), lk (dCs e f) (kC c) = (lkC f c).map e
  | [], c => rfl
  | (a, x) :: r, c => by
    have ih := lk_C r c
    unfold lk lkC dCs at ih ⊢
    by_cases h : a = c
    · subst h; simp
    · have h' : kC a ≠ kC c := fun q => h (kC_inj.mp q)
      simp only [List.map_cons, List.find?_cons, h, h', decide_false]
      exact ih
theorem pt_C (f : List (C2 × α)) (c : C2) (x : α) (h : c ∉ f.map (·.1)) : pt (dCs e f) (kC c) (e x) = dCs e (f ++ [(c, x)]) := by
  unfold pt
  rw [if_neg]
  · simp [dCs]
  · simp only [List.any_eq_true, decide_eq_true_eq, dCs, List.mem_map]
    rintro ⟨_, ⟨p, hp, rfl⟩, h2⟩
    exact h (by rw [← kC_inj.mp h2]; exact List.mem_map_of_mem hp)
theorem lkC_none (f : List (C2 × α)) (c : C2) : (lkC f c).isSome = decide (c ∈ f.map (·.1)) := by
  unfold lkC
  rw [Bool.eq_iff_iff, Option.isSome_map, List.find?_isSome]
  simp
theorem keyT_C (c : C2) : keyT (pC c) = some (kC c) := by simp [keyT, pC, kC]
theorem dLook_C (f : List (C2 × α)) (c : C2) : dLook (.dT (dCs e f)) (wC c) = .ok (lk (dCs e f) (kC c)) := by
  show (match keyT (pC c) with | some k => R.ok (lk (dCs e f) k) | none => .no) = _
  rw [keyT_C]
theorem pIn_D (n : Bool) (c : C2) (f : List (C2 × α)) : pInW n (wC c) (.dT (dCs e f)) = .ok (bv (if n = true then decide (¬ c ∈ f.map (·.1)) else decide (c ∈ f.map (·.1)))) := by
  have h : pIn (wC c) (.dT (dCs e f)) = .ok (decide (c ∈ f.map (·.1))) := by
    have h0 : pIn (wC c) (.dT (dCs e f)) = (dLook (.dT (dCs e f)) (wC c)).bind fun o => .ok o.isSome := by simp only [pIn, wC]
    rw [h0, dLook_C, lk_C]
    show R.ok _ = _
    rw [Option.isSome_map, lkC_none]
  unfold pInW; rw [h]
  show R.ok (bv _) = _
  cases n <;> by_cases q : c ∈ f.map (·.1) <;> simp [q]
theorem pGet_D (f : List (C2 × α)) (c : C2) {x : α} (h : lkC f c = some x) : pGet (.dT (dCs e f)) (wC c) = .ok (.dat (e x)) := by
  have h0 : pGet (.dT (dCs e f)) (wC c) = (dLook (.dT (dCs e f)) (wC c)).bind (optW .dat) := by simp only [pGet, wC]
  rw [h0, dLook_C, lk_C, h]; rfl
end
/-! ### walking -/
theorem items_Cs (l : List C2) : items (wCs l) = .ok (l.map wC) := by simp only [items, wCs, pCs, List.map_map]; rfl
theorem items_B (l : List (List Nat)) : items (wB l) = .ok (l.map wR) := by simp only [items, wB, pB, List.map_map]; rfl
theorem items_R (l : List Nat) : items (wR l) = .ok (l.map fun c => wS [c]) := by simp only [items, wR, pR]; rfl
theorem zip2_Cs (l m : List C2) : zip2 [wCs l, wCs m] = .ok ((l.zip m).map fun p => .dat (.tuple [pC p.1, pC p.2])) := by
  have : ∀ l m : List C2, zipD (l.map pC) (m.map pC) = (l.zip m).map fun p => .dat (.tuple [pC p.1, pC p.2]) := by
    intro l
    induction l with
    | nil => intro m; cases m <;> rfl
    | cons a l ih => intro m; cases m with
      | nil => rfl
      | cons b m => simp only [List.map_cons, zipD, List.zip_cons_cons, ih]
  show R.ok _ = _
  rw [this]
theorem rng1_I (n : Int) (h0 : 0 ≤ n) (h : n < 2 ^ 62) : rng1 [wI n] = .ok ((List.range n.toNat).map fun k => wI (k : Nat)) := by
  show (if bnd n then _ else _) = _
  rw [if_pos (by unfold bnd; omega)]
  congr 1
  unfold rangeD; apply List.map_congr_left; intro k _; simp
theorem forS_inv {α β : Type} (enc : α → W) (st : β → Rho) (step : β → α → β) {t : W → Rho → R Rho} {g : Rho → R Out} (Inv : List α → β → Prop) (h : ∀ a r s, Inv (a :: r) s → ((noEx (t (enc a) (st s))).bind fun ρ1 => g ρ1) = .ok (.nx (st (step s a))) ∧ Inv r (step s a)) :
    ∀ l s, Inv l s → forS t g (l.map enc) (st s) = .ok (.nx (st (l.foldl step s))) ∧ Inv [] (l.foldl step s)
  | [], s, i => ⟨rfl, i⟩
  | a :: l, s, i => by
    obtain ⟨h1, h2⟩ := h a l s i
    have ih := forS_inv enc st step Inv h l (step s a) h2
    refine ⟨?_, ih.2⟩
    show ((noEx (t (enc a) (st s))).bind fun ρ1 => (g ρ1).bind _) = _
    cases z : noEx (t (enc a) (st s)) with
    | no => rw [z] at h1; cases h1
    | ex c => rw [z] at h1; cases h1
    | ok ρ1 =>
      rw [z] at h1
      have h1 : g ρ1 = .ok (.nx (st (step s a))) := h1
      show (g ρ1).bind _ = _
      rw [h1]; exact ih.1
/-- a loop that may answer: step gives the answer or the next state -/
def foldE {α β γ : Type} (step : β → α → γ ⊕ β) : List α → β → γ ⊕ β
  | [], s => .inr s
  | a :: l, s => match step s a with
    | .inl w => .inl w
    | .inr s' => foldE step l s'
def outE {β : Type} (st : β → Rho) : W ⊕ β → Out
  | .inl w => .rt w
  | .inr s => .nx (st s)
theorem forS_ret {α β : Type} (enc : α → W) (st : β → Rho) (step : β → α → W ⊕ β) {t : W → Rho → R Rho} {g : Rho → R Out} : ∀ (l : List α) (s : β), (∀ a ∈ l, ∀ s, ((noEx (t (enc a) (st s))).bind fun ρ1 => g ρ1) = .ok (outE st (step s a))) →
    forS t g (l.map enc) (st s) = .ok (outE st (foldE step l s))
  | [], s, h => rfl
  | a :: l, s, h => by
    have h1 := h a List.mem_cons_self s
    have ih := fun s => forS_ret enc st step l s fun b hb => h b (List.mem_cons_of_mem _ hb)
    show ((noEx (t (enc a) (st s))).bind fun ρ1 => (g ρ1).bind _) = _
    cases z : noEx (t (enc a) (st s)) with
    | no => rw [z] at h1; cases h1
    | ex c => rw [z] at h1; cases h1
    | ok ρ1 =>
      rw [z] at h1
      have h1 : g ρ1 = _ := h1
      show (g ρ1).bind _ = _
      rw [h1]
      unfold foldE
      cases q : step s a with
      | inl w => rfl
      | inr s' => exact ih s'
/-- comprehensions -/
theorem lcS_map {α : Type} (enc : α → W) (out : α → Pd) (keep : α → Bool) {vs : List Nat} {t : W → Rho → R Rho} {c : Rho → R Bool} {f : Rho → R W} (ρ : Rho) : ∀ (l : List α), (∀ a ∈ l, ∃ ρ1, t (enc a) (killAt vs ρ) = .ok ρ1 ∧ c ρ1 = .ok (keep a) ∧ (keep a = true → f ρ1 = .ok (.dat (out a)))) →
    lcS vs t c f (l.map enc) ρ = .ok ((l.filter keep).map out)
  | [], _ => rfl
  | a :: l, h => by
    obtain ⟨ρ1, h1, h2, h3⟩ := h a List.mem_cons_self
    have ih := lcS_map enc out keep ρ l fun b hb => h b (List.mem_cons_of_mem _ hb)
    simp only [List.map_cons, lcS, h1, noEx_ok, bindok, h2, List.filter_cons]
    cases k : keep a with
    | false => simp only [Bool.false_eq_true, if_false]; exact ih
    | true => simp only [if_true, h3 k, noEx_ok, bindok, asDat_dat, ih, List.map_cons]
theorem allB_map {α : Type} (p : α → Bool) : ∀ l : List α, allB (l.map fun a => .bool (p a)) = some (l.map p)
  | [] => rfl
  | a :: l => by simp only [List.map_cons, allB, allB_map p l]; rfl
theorem pAll_map {α : Type} (p : α → Bool) (l : List α) : pAll [.dat (.list (l.map fun a => .bool (p a)))] = .ok (bv (l.all p)) := by
  simp only [pAll, allB_map]
  simp [List.all_map]
end Vd

/-! Val16: loops and comprehensions by rewriting; boards. -/
namespace Vd
open L2 PyProof.Rows PySem PySem.Spec
theorem outW_rt (w : W) : outW (.rt w) = .ok w := rfl
theorem outW_nx (ρ : Rho) : outW (.nx ρ) = .ok wN := rfl
theorem gFor_inv {α β : Type} {f : Rho → R (List W)} {t : W → Rho → R Rho} {g : Rho → R Out} {ρ : Rho} (enc : α → W) (l : List α) (st : β → Rho) (step : β → α → β) (Inv : List α → β → Prop) (s0 : β) (hf : f ρ = .ok (l.map enc)) (hρ : ρ = st s0) (h0 : Inv l s0)
    (h : ∀ a r s, Inv (a :: r) s → ((noEx (t (enc a) (st s))).bind fun ρ1 => g ρ1) = .ok (.nx (st (step s a))) ∧ Inv r (step s a)) : gFor f t g ρ = .ok (.nx (st (l.foldl step s0))) := by
  unfold gFor; rw [hf, hρ]; exact (forS_inv enc st step Inv h l s0 h0).1
theorem gFor_ret {α β : Type} {f : Rho → R (List W)} {t : W → Rho → R Rho} {g : Rho → R Out} {ρ : Rho} (enc : α → W) (l : List α) (st : β → Rho) (step : β → α → W ⊕ β) (s0 : β) (hf : f ρ = .ok (l.map enc)) (hρ : ρ = st s0)
    (h : ∀ a ∈ l, ∀ s, ((noEx (t (enc a) (st s))).bind fun ρ1 => g ρ1) = .ok (outE st (step s a))) : gFor f t g ρ = .ok (outE st (foldE step l s0)) := by
  unfold gFor; rw [hf, hρ]; exact forS_ret enc st step l s0 h
theorem nLc_map {α : Type} {i : Rho → R (List W)} {vs : List Nat} {t : W → Rho → R Rho} {c : Rho → R Bool} {f : Rho → R W} {ρ : Rho} (enc : α → W) (l : List α) (out : α → Pd) (keep : α → Bool) (hi : i ρ = .ok (l.map enc)) (hl : l.length ≤ sizeLine)
    (h : ∀ a ∈ l, ∃ ρ1, t (enc a) (killAt vs ρ) = .ok ρ1 ∧ c ρ1 = .ok (keep a) ∧ (keep a = true → f ρ1 = .ok (.dat (out a)))) : nLc i vs t c f ρ = .ok (.L ((l.filter keep).map out)) := by
  unfold nLc; rw [hi, bindok, lcS_map enc out keep ρ l h, noEx_ok, bindok, if_pos]
  unfold fits; have := List.length_filter_le keep l; rw [List.length_map]; omega
theorem nLc_all {α : Type} {i : Rho → R (List W)} {vs : List Nat} {t : W → Rho → R Rho} {c : Rho → R Bool} {f : Rho → R W} {ρ : Rho} (enc : α → W) (l : List α) (out : α → Pd) (hi : i ρ = .ok (l.map enc)) (hl : l.length ≤ sizeLine)
    (h : ∀ a ∈ l, ∃ ρ1, t (enc a) (killAt vs ρ) = .ok ρ1 ∧ c ρ1 = .ok true ∧ f ρ1 = .ok (.dat (out a))) : nLc i vs t c f ρ = .ok (.L (l.map out)) := by
  rw [nLc_map enc l out (fun _ => true) hi hl fun a ha => by obtain ⟨r, h1, h2, h3⟩ := h a ha; exact ⟨r, h1, h2, fun _ => h3⟩]
  rw [List.filter_eq_self.mpr (fun _ _ => rfl)]
/-! ### boards -/
abbrev Bd := List (List Nat)
def wd (b : Bd) : Nat := (b.getD 0 []).length
structure Good (b : Bd) : Prop where
  h1 : 1 ≤ b.length
  h8 : b.length ≤ 8
  w1 : 1 ≤ wd b
  w8 : wd b ≤ 8
  row : ∀ r ∈ b, r.length = wd b
  lets : ∀ r ∈ b, ∀ c ∈ r, c ∈ [97, 98, 99, 100, 101, 102]
def ins (b : Bd) (c : C2) : Bool := decide (0 ≤ c.1) && decide (c.1 < b.length) && decide (0 ≤ c.2) && decide (c.2 < wd b)
def ltr (b : Bd) (c : C2) : Nat := (b.getD c.1.toNat []).getD c.2.toNat 0
theorem ins_iff {b : Bd} {c : C2} : ins b c = true ↔ 0 ≤ c.1 ∧ c.1 < b.length ∧ 0 ≤ c.2 ∧ c.2 < wd b := by simp [ins, and_assoc]
theorem Good.getRow {b : Bd} (g : Good b) {i : Int} (h0 : 0 ≤ i) (h : i < b.length) : b.getD i.toNat [] ∈ b := by
  rw [List.getD_eq_getElem?_getD, List.getElem?_eq_getElem (by omega)]; exact List.getElem_mem _
theorem Good.rowLen {b : Bd} (g : Good b) {i : Int} (h0 : 0 ≤ i) (h : i < b.length) : (b.getD i.toNat []).length = wd b := g.row _ (g.getRow h0 h)
theorem Good.okr {b : Bd} (g : Good b) : ∀ r ∈ b, okR r := fun r hr c hc => by
  have := g.lets r hr c hc; simp at this; omega
theorem Good.ltr_mem {b : Bd} (g : Good b) {c : C2} (h : ins b c = true) : ltr b c ∈ [97, 98, 99, 100, 101, 102] := by
  obtain ⟨h1, h2, h3, h4⟩ := ins_iff.mp h
  refine g.lets _ (g.getRow h1 h2) _ ?_
  have := g.rowLen h1 h2
  unfold ltr
  rw [List.getD_eq_getElem?_getD (l := b.getD _ _), List.getElem?_eq_getElem (by omega)]; exact List.getElem_mem _
theorem Good.okl {b : Bd} (g : Good b) {c : C2} (h : ins b c = true) : okR [ltr b c] := fun x hx => by
  have := g.ltr_mem h; simp at this hx; omega
theorem Good.get1 {b : Bd} (g : Good b) {i : Int} (h0 : 0 ≤ i) (h : i < b.length) : pGet (wB b) (wI i) = .ok (wR (b.getD i.toNat [])) := pGet_B b i h0 h
theorem Good.get2 {b : Bd} (g : Good b) {c : C2} (h : ins b c = true) : ((pGet (wB b) (wI c.1)).bind fun r => pGet r (wI c.2)) = .ok (wS [ltr b c]) := by
  obtain ⟨h1, h2, h3, h4⟩ := ins_iff.mp h
  have := g.rowLen h1 h2
  have := g.w8
  rw [pGet_B b _ h1 h2, bindok, pGet_R _ _ h3 (by omega) (by unfold sizeLine; omega)]; rfl
theorem Good.get0 {b : Bd} (g : Good b) : pGet (wB b) (wI 0) = .ok (wR (b.getD 0 [])) := pGet_B b 0 (by omega) (by have := g.h1; omega)
theorem Good.len0 {b : Bd} (g : Good b) : pLen [wR (b.getD 0 [])] = .ok (wI (wd b)) := pLen_R _ (by have := g.w8; unfold wd at this; unfold sizeLine; omega)
theorem pEq_S (n : Bool) {i j : List Nat} (h : okR i) (h2 : okR j) : pEq n (wS i) (wS j) = .ok (bv (if n = true then decide (¬ i = j) else decide (i = j))) := pEq_mk (sh_R h) (sh_R h2) (eqv_R i j)
theorem fits0 : fits 0 := by unfold fits sizeLine; omega
theorem fits1 : fits 1 := by unfold fits sizeLine; omega
theorem fits2 : fits 2 := by unfold fits sizeLine; omega
theorem fits3 : fits 3 := by unfold fits sizeLine; omega
theorem fits4 : fits 4 := by unfold fits sizeLine; omega
theorem wN_eq : W.dat PyData.none = wN := rfl
theorem wbv_eq (b : Bool) : W.dat (PyData.bool b) = bv b := rfl
end Vd

/-! Val17: the head's facts: defs, errors, constants. -/
namespace Vd
open L2 PyProof.Rows PySem PySem.Spec
mutual
def dpB (K : PySem.W.Frag) : Pd → Value → Bool
  | .none, u => (match u with | .none => true | _ => false)
  | .bool b, u => (match u with | .bool c => b == c | _ => false)
  | .int i, u => (match u with | .int j _ => decide (i = j) | _ => false)
  | .str x, u => (match u with | .str y _ => decide (x = y) | _ => false)
  | .tuple ds, u => (match u with
    | .ref a => (match K.lookup a with
      | some ⟨.type c, _, .seq its _, _⟩ => decide (c = "tuple") && (decide (its.size ≤ sizeLine) && dpAllB K ds its.toList)
      | _ => false)
    | _ => false)
  | .list ds, u => (match u with
    | .ref a => (match K.lookup a with
      | some ⟨.type c, none, .seq its _, _⟩ => decide (c = "list") && (decide (its.size ≤ sizeLine) && dpAllB K ds its.toList)
      | _ => false)
    | _ => false)
  | .dict _, _ => false
def dpAllB (K : PySem.W.Frag) : List Pd → List Value → Bool
  | [], us => us.isEmpty
  | d :: ds, us => (match us with | u :: us => dpB K d u && dpAllB K ds us | [] => false)
end
mutual
theorem dpB_ok {K : PySem.W.Frag} : ∀ (d : Pd) (u : Value), dpB K d u = true → ∃ v, RelV v u ∧ ∀ H, Dp K H v d
  | .none, u, h => by unfold dpB at h; split at h; exact ⟨.non, rfl, fun _ => .non⟩; cases h
  | .bool b, u, h => by
    unfold dpB at h; split at h
    · rename_i c; have e : b = c := eq_of_beq h; subst e; exact ⟨.bl b, rfl, fun _ => .bl b⟩
    · cases h
  | .int i, u, h => by
    unfold dpB at h; split at h
    · rename_i j t; have e : i = j := of_decide_eq_true h; subst e; exact ⟨.int i, ⟨t, rfl⟩, fun _ => .int i⟩
    · cases h
  | .str x, u, h => by
    unfold dpB at h; split at h
    · rename_i y t; have e : x = y := of_decide_eq_true h; subst e; exact ⟨.str x, ⟨t, rfl⟩, fun _ => .str x⟩
    · cases h
  | .tuple ds, u, h => by
    unfold dpB at h; split at h
    · rename_i a
      split at h
      · rename_i c od its n sl q
        rw [Bool.and_eq_true, Bool.and_eq_true] at h
        obtain ⟨h1, h2, h3⟩ := h
        obtain ⟨vs, h4, h5⟩ := dpAllB_ok ds _ h3
        have e : c = "tuple" := of_decide_eq_true h1
        exact ⟨.ref a, rfl, fun H => .tup (.inr ⟨_, its, n, q, by rw [e], rfl, of_decide_eq_true h2, h4⟩) (h5 H)⟩
      · cases h
    · cases h
  | .list ds, u, h => by
    unfold dpB at h; split at h
    · rename_i a
      split at h
      · rename_i c its n sl q
        rw [Bool.and_eq_true, Bool.and_eq_true] at h
        obtain ⟨h1, h2, h3⟩ := h
        obtain ⟨vs, h4, h5⟩ := dpAllB_ok ds _ h3
        have e : c = "list" := of_decide_eq_true h1
        exact ⟨.ref a, rfl, fun H => .lst (.inr ⟨_, its, n, q, by rw [e], rfl, rfl, of_decide_eq_true h2, h4⟩) (h5 H)⟩
      · cases h
    · cases h
  | .dict _, u, h => by unfold dpB at h; cases h
theorem dpAllB_ok {K : PySem.W.Frag} : ∀ (ds : List Pd) (us : List Value), dpAllB K ds us = true → ∃ vs, Vals vs us ∧ ∀ H, DpAll K H vs ds
  | [], us, h => by
    unfold dpAllB at h
    cases us with
    | nil => exact ⟨[], .nil, fun _ => .nil⟩
    | cons u us => cases h
  | d :: ds, us, h => by
    unfold dpAllB at h
    split at h
    · rename_i u us
      rw [Bool.and_eq_true] at h
      obtain ⟨v, h1, h2⟩ := dpB_ok d u h.1
      obtain ⟨vs, h3, h4⟩ := dpAllB_ok ds us h.2
      exact ⟨v :: vs, .cons h1 h3, fun H => .cons (h2 H) (h4 H)⟩
    · cases h
end
def conB (K : PySem.W.Frag) (c : Str × Pd) : Bool := match PySem.W.nsIn K mainGlobals c.1 with
  | some (some u) => dpB K c.2 u
  | _ => false
theorem conB_ok {K : PySem.W.Frag} {h : Heap} {mg : Str → Option Value} (X : K.In h) (G : h.Ns mainGlobals mg) {x : Str} {d : Pd} (c : conB K (x, d) = true) : ConK K mg x (.kdat d) := by
  unfold conB at c
  split at c
  · rename_i u e
    obtain ⟨v, h1, h2⟩ := dpB_ok d u c
    exact ⟨u, v, PySem.W.mg_of X G e, h1, fun F => h2 F⟩
  · cases c
/-- what the head must say beside the defs: constants, classes of exceptions -/
inductive Ck where
  | con (x : Str) (d : Pd)
  | excC (x : Str)
  | isE (x y : Str) (b : Bool)
  | isT (x : Str) (T : String) (b : Bool)
  | exm (x y : Str) (b : Bool)
def ckB (K : PySem.W.Frag) : Ck → Bool
  | .con x d => conB K (x, d)
  | .excC x => He.eqO (PySem.W.findIn K (.ref (He.ga K x)) "__getattribute__") (some (some (.builtin "BaseException.__getattribute__"))) && (He.eqO (PySem.W.findIn K (.ref (He.ga K x)) "__getattr__") (some none) && (decide (PySem.W.subIn K (.ref (He.ga K x)) (.type "BaseException") = some true) &&
      (PySem.W.hasDictIn K (He.ga K x) && (He.eqO (PySem.W.findIn K (.ref (He.ga K x)) "__class__") (some (some (.builtin "object.__class__"))) && (decide (PySem.W.specialIn K (.builtin "object.__class__") "__get__" = some (some (.builtin "getset_descriptor.__get__"))) &&
      (decide (PySem.W.takesIn K (.builtin "object.__class__") = some true) && decide (PySem.W.mroIn K (He.ga K x) (.type "object") = some true)))))))
  | .isE x y b => decide (PySem.W.kitOne K (.ref (He.ga K x)) (.ref (He.ga K y)) = some b)
  | .isT x T b => decide (PySem.W.kitOne K (.ref (He.ga K x)) (.type T) = some b)
  | .exm x y b => decide (PySem.W.exmOne K (.ref (He.ga K x)) (.ref (He.ga K y)) = some b)
theorem ck_con {K : PySem.W.Frag} {x : Str} {d : Pd} (h : ckB K (.con x d) = true) : conB K (x, d) = true := h
theorem ck_exc {K : PySem.W.Frag} {x : Str} (h : ckB K (.excC x) = true) : ExcC K (He.ga K x) := by
  unfold ckB at h
  simp only [Bool.and_eq_true, decide_eq_true_eq] at h
  obtain ⟨h1, h2, h3, h4, h5, h6, h7, h8⟩ := h
  exact ⟨He.eqO_ok h1, He.eqO_ok h2, h3, h4, He.eqO_ok h5, h6, h7, h8⟩
theorem ck_isE {K : PySem.W.Frag} {x y : Str} {b : Bool} (h : ckB K (.isE x y b) = true) : PySem.W.kitOne K (.ref (He.ga K x)) (.ref (He.ga K y)) = some b := of_decide_eq_true h
theorem ck_isT {K : PySem.W.Frag} {x : Str} {T : String} {b : Bool} (h : ckB K (.isT x T b) = true) : PySem.W.kitOne K (.ref (He.ga K x)) (.type T) = some b := of_decide_eq_true h
theorem ck_exm {K : PySem.W.Frag} {x y : Str} {b : Bool} (h : ckB K (.exm x y b) = true) : PySem.W.exmOne K (.ref (He.ga K x)) (.ref (He.ga K y)) = some b := of_decide_eq_true h
theorem conI {K : PySem.W.Frag} {mg : Str → Option Value} {x : Str} {i : Int} (h : ∃ t, mg x = some (.int i t)) : ConK K mg x (.dat (.int i)) := by
  obtain ⟨t, h⟩ := h; exact ⟨_, .int i, h, ⟨t, rfl⟩, fun F => rfl⟩
theorem conS {K : PySem.W.Frag} {mg : Str → Option Value} {x z : Str} (h : ∃ t, mg x = some (.str z t)) : ConK K mg x (.dat (.str z)) := by
  obtain ⟨t, h⟩ := h; exact ⟨_, .str z, h, ⟨t, rfl⟩, fun F => rfl⟩
theorem conF {K : PySem.W.Frag} {mg : Str → Option Value} {x : Str} {f : Addr} (h : mg x = some (.ref f)) (hx : isExc x = false := by decide) : ConK K mg x (.fn x) := ⟨_, .ref f, h, rfl, fun F => ⟨f, by rw [if_neg (by rw [hx]; exact fun h => nomatch h)]; exact h, rfl⟩⟩
/-- a plain def -/
def dD (x : Str) (st : Stmt) : He.DefD := ⟨(x, none), x, x, defArgs st, defBody st, defScope st, [], []⟩
theorem fun_of {K : PySem.W.Frag} {x q : Str} {st : Stmt} {f : Addr} {fd : FuncData} (F : FunD K x q (defArgs st) (defBody st) (defScope st) [] [] f fd) : Fun K x q st f fd := by
  obtain ⟨oc, od, dV, kV, doc, pm, an, cdv, ct, osl, e, lk, hc, hd, hk⟩ := F.ex
  have e0 : dV = .none := by
    rcases hd with ⟨_, h⟩ | ⟨h, _⟩
    · exact h
    · exact (h rfl).elim
  subst e0
  exact ⟨⟨oc, od, kV, doc, pm, an, cdv, ct, osl, e, lk, hc⟩, F.kp⟩
theorem defK_of {K : PySem.W.Frag} {h : Heap} {mg : Str → Option Value} (X : K.In h) (G : h.Ns mainGlobals mg) {fa : List He.Fa} {fn : List He.DefD} (c : He.SaysD fa fn K) (x : Str) (st : Stmt) (ps : List Str) (i j : Nat) (hi : fn[i]? = some (dD x st)) (hj : fa[j]? = some (.glo x))
    (hb : ∀ (kV doc pm : Value) (an : Option Addr) (cdv ct : Value) (us : List Value), us.length = ps.length → bindArgs (PySem.W.fnOf x x (defArgs st) (defBody st) (defScope st) .none kV doc pm an cdv ct) ⟨us, []⟩ = pure (ps.zip us)) : DefK K mg x st ps := by
  obtain ⟨fd, F⟩ := c.def_ i (d := dD x st) hi
  have F := fun_of F
  exact ⟨_, fd, F, He.glo_ok X G (c.fact j (f := .glo x) hj), F.binds hb⟩
theorem excK_of {K : PySem.W.Frag} {h : Heap} {mg : Str → Option Value} (X : K.In h) (G : h.Ns mainGlobals mg) {fa : List He.Fa} {fn : List He.DefD} (c : He.SaysD fa fn K) (x : Str) (i j : Nat) (hi : fa[i]? = some (.exc x)) (hj : fa[j]? = some (.glo x)) : ExcK K mg x := by
  obtain ⟨h1, h2, h3, h4⟩ := He.exc_ok (c.fact i (f := .exc x) hi)
  exact ⟨_, He.glo_ok X G (c.fact j (f := .glo x) hj), h1, h2, h3, h4⟩
/-! ### the hook -/
abbrev AlV : Type := He.AlD × Bool
def obsV (fa : List He.Fa) (fn : List He.DefD) (cs : List Ck) (K : PySem.W.Frag) : AlV := (He.obsD fa fn K, cs.all (ckB K))
def obsVG (n : Nat) (fa : List He.Fa) (fn : List He.DefD) (cs : List Ck) (g : Addr → Option Obj) : AlV := obsV fa fn cs (He.frG g (He.asD g n))
def hookV (n : Nat) (fa : List He.Fa) (fn : List He.DefD) (cs : List Ck) : PySem.W.Hook where
  α := AlV
  obs := fun s => obsVG n fa fn cs s.heap.get?
  val := fun _ => (He.valD fn, true)
  says := fun _ h => ∃ K : PySem.W.Frag, K.In h ∧ He.SaysD fa fn K ∧ cs.all (ckB K) = true
  of := fun _ _ e => ⟨_, He.frG_in, congrArg (fun z : AlV => z.1) e, congrArg (fun z : AlV => z.2) e⟩
  keeps := fun _ _ _ ⟨K, hK, c⟩ k => ⟨K, PySem.W.Frag.In.keeps hK k, c⟩
theorem obsVG_eq {n : Nat} {fa : List He.Fa} {fn : List He.DefD} {cs : List Ck} {g : Addr → Option Obj} {s : Shared} (h : ∀ a, g a = s.heap.get? a) : obsVG n fa fn cs g = (hookV n fa fn cs).obs s := by
  have e : g = s.heap.get? := funext h
  rw [e] <;> rfl
/-- the law's promise -/
theorem dpAll_ints {K : PySem.W.Frag} {H : Hp} : ∀ ns : List Int, DpAll K H (ns.map V.int) (ns.map PyData.int)
  | [] => .nil
  | n :: ns => .cons (.int n) (dpAll_ints ns)
theorem law_sp {K : PySem.W.Frag} {mg : Str → Option Value} {G : List W → R W} (hG : ∀ ns : List Int, ns.length ≤ 63 → G [.kdat (.list (ns.map .int))] = .ok (bv true)) (H : Hp) (a : Addr) (ns : List Int) (hl : ns.length ≤ 63) (hS : SqL K H a (ns.map V.int)) :
    (spV K mg 1 G) [.ref a] H (fun v _ => v = .bl true) (fun _ _ _ => False) := by
  refine ⟨H, [.kdat (.list (ns.map .int))], rfl, .refl H, ⟨.ref a, [], rfl, .lst hS (dpAll_ints ns), rfl⟩, ?_⟩
  rw [hG ns hl]
  exact fun v F' H' _ r => r
/-- the end: F gives the law's def over every base -/
theorem walk_ofV {l : PySem.W.OpenLaw} {n k : Nat} {q : Program} {loose : List Str} {XP : (Str → Option Value) → Heap → Prop} {YP : World → Heap → Prop} {d : DefRec} {x : Str}
    (hn : l.most = some n) (hn2 : n ≤ sizeLine) (hdf : d.params.defaults = []) (hr : Room k callerA)
    (F : ∀ (w : World) (mg : Str → Option Value) (fa : Addr) (h : Heap), YP w h → h.Ns mainGlobals mg → mg d.name = some (.ref fa) →
      ∃ (K : PySem.W.Frag) (fd : FuncData) (sp : Sp), K.In h ∧ (∀ (s : Shared) (u : Value), BindsTo s fd ⟨[u], []⟩ [(x, u)]) ∧
        (∀ (H : Hp) (a : Addr) (ns : List Int), ns.length ≤ n → Only H → SqL K H a (ns.map V.int) → sp [.ref a] H (fun v _ => v = .bl true) fun _ _ _ => False) ∧
        ∀ base : Heap, K.In base → base.Ns mainGlobals mg → FnOk l.prog w K mg base (L2N.CX l.prog w) k fa fd [x] sp) :
    PySem.W.WalkO q loose XP YP l.row.toRowW d [] (fun f vs => PySem.call f vs) := by
  refine Att.attach_call hn hdf fun w s₀ s₁ mg mb fa o pm cd doc a vs ns G Y ho hd hcd hmg hobj hints hlen hg => ?_
  obtain ⟨K, fd, sp, KX, hb, hsp, hF⟩ := F w mg fa _ Y G.T.g hmg
  exact law_call KX G.T.g G.T.b G.T.builtins G.T.nolimit hg hobj hints (Nat.le_trans hlen hn2) hr hF hb (fun H hO hS => hsp H a ns hlen hO hS) fun H e s' ⟨_, _, _, _, _, _, _, _, _, _, _, _, z⟩ => z
theorem end_of {P : Program} {w : World} {K : PySem.W.Frag} {mg : Str → Option Value} {h : Heap} {fa : Addr} {k : Nat} {x a : Str} {G : List W → R W} (KX : K.In h) (hmg : mg x = some (.ref fa)) (F : ∀ base : Heap, FnP P w K mg base k x [a] G) {st : Stmt} (D : DefK K mg x st [a]) (hbd : ∀ (kV doc pm : Value) (an : Option Addr) (cdv ct : Value) (u : Value), bindArgs (PySem.W.fnOf x x (defArgs st) (defBody st) (defScope st) .none kV doc pm an cdv ct) ⟨[u], []⟩ = pure [(a, u)])
    (hG : ∀ (H : Hp) (b : Addr) (ns : List Int), ns.length ≤ 63 → SqL K H b (ns.map V.int) → (spV K mg 1 G) [.ref b] H (fun v _ => v = .bl true) (fun _ _ _ => False)) :
    ∃ (K : PySem.W.Frag) (fd : FuncData) (sp : Sp), K.In h ∧ (∀ (s : Shared) (u : Value), BindsTo s fd ⟨[u], []⟩ [(a, u)]) ∧
      (∀ (H : Hp) (b : Addr) (ns : List Int), ns.length ≤ 63 → Only H → SqL K H b (ns.map V.int) → sp [.ref b] H (fun v _ => v = .bl true) fun _ _ _ => False) ∧
      ∀ base : Heap, K.In base → base.Ns mainGlobals mg → FnOk P w K mg base (L2N.CX P w) k fa fd [a] sp := by
  obtain ⟨f, fd, h1, h2, h3, h4, oc, od, sl, h5⟩ := (F h).ex
  rw [hmg] at h2
  cases h2
  obtain ⟨f0, fd0, F0, g0, _⟩ := D.ex
  rw [hmg] at g0
  cases g0
  obtain ⟨oc0, od0, kV, doc, pm, an, cdv, ct, osl, e0, l0, _⟩ := F0.ex
  rw [h5] at l0
  cases l0
  refine ⟨K, fd, spV K mg 1 G, KX, fun s u => .of_eq (by rw [e0]; exact hbd kV doc pm an cdv ct u), fun H b ns hl _ hS => hG H b ns hl hS, fun base _ _ => ?_⟩
  obtain ⟨f', fd', k1, k2, k3, k4, oc', od', sl', k5⟩ := (F base).ex
  rw [hmg] at k2
  cases k2
  rw [h5] at k5
  cases k5
  exact k1
end Vd

/-! Val18: len(set(xs)), xs a list of tuples of ints. -/
namespace Vd
open L2 PyProof.Rows PySem PySem.Spec
section
variable {α : Type} [DecidableEq α]
def ddup : List α → List α
  | [] => []
  | a :: l => if a ∈ l then ddup l else a :: ddup l
theorem ddup_mem {x : α} : ∀ {l : List α}, x ∈ ddup l ↔ x ∈ l
  | [] => Iff.rfl
  | a :: l => by
    unfold ddup
    split
    · rename_i h
      rw [ddup_mem, List.mem_cons]
      exact ⟨.inr, fun q => q.elim (fun e => e ▸ h) id⟩
    · rw [List.mem_cons, List.mem_cons, ddup_mem]
theorem ddup_nodup : ∀ l : List α, (ddup l).Nodup
  | [] => List.nodup_nil
  | a :: l => by
    unfold ddup
    split
    · exact ddup_nodup l
    · rename_i h
      rw [List.nodup_cons]
      exact ⟨fun q => h (ddup_mem.mp q), ddup_nodup l⟩
theorem ddup_id : ∀ {l : List α}, l.Nodup → ddup l = l
  | [], _ => rfl
  | a :: l, h => by
    rw [List.nodup_cons] at h
    unfold ddup
    rw [if_neg h.1, ddup_id h.2]
theorem sub_len : ∀ {l m : List α}, l.Nodup → (∀ a ∈ l, a ∈ m) → l.length ≤ m.length
  | [], m, _, _ => Nat.zero_le _
  | a :: l, m, h, s => by
    rw [List.nodup_cons] at h
    have ha := s a List.mem_cons_self
    have ih := sub_len (m := m.erase a) h.2 fun x hx => by
      have hne : x ≠ a := fun e => h.1 (e ▸ hx)
      exact (List.mem_erase_of_ne hne).mpr (s x (List.mem_cons_of_mem _ hx))
    rw [List.length_erase_of_mem ha] at ih
    have := List.length_pos_of_mem ha
    simp only [List.length_cons]; omega
theorem same_len {l m : List α} (h : l.Nodup) (h1 : ∀ a ∈ l, a ∈ m) (h2 : ∀ a ∈ m, a ∈ l) : l.length = (ddup m).length :=
  Nat.le_antisymm (sub_len h fun a ha => ddup_mem.mpr (h1 a ha)) (sub_len (ddup_nodup m) fun a ha => h2 a (ddup_mem.mp ha))
end
def asTups : List Pd → Option (List (List Int))
  | [] => some []
  | .tuple ds :: r => match asInts ds with
    | some k => (asTups r).map (k :: ·)
    | none => none
  | _ :: _ => none
theorem asTups_rep {F : Hp} : ∀ {ds : List Pd} {xs : List V} {ks : List (List Int)}, DsL F ds xs → asTups ds = some ks → ∃ ps : List (Addr × List Int), xs = ps.map (fun p => V.ref p.1) ∧ ps.map (·.2) = ks ∧ ∀ p ∈ ps, F p.1 = some (.tup (p.2.map V.int))
  | [], _, _, h, e => by cases h; cases e; exact ⟨[], rfl, rfl, fun _ q => nomatch q⟩
  | .tuple ds :: r, _, ks, ⟨x, t, e1, ⟨a, ys, e3, h1, h2⟩, q⟩, e => by
    unfold asTups at e
    cases z : asInts ds with
    | none => rw [z] at e; cases e
    | some k =>
      rw [z] at e
      cases z2 : asTups r with
      | none => simp only [z2] at e; cases e
      | some ms =>
        simp only [z2] at e; cases e
        obtain ⟨ps, p1, p2, p3⟩ := asTups_rep q z2
        have e4 := asInts_rep h2 z
        subst e4
        refine ⟨(a, k) :: ps, by rw [e1, e3, p1]; rfl, by rw [← p2]; rfl, fun p hp => ?_⟩
        rcases List.mem_cons.mp hp with rfl | hp
        · exact h1
        · exact p3 p hp
  | .none :: _, _, _, _, e => by cases e
  | .bool _ :: _, _, _, _, e => by cases e
  | .int _ :: _, _, _, _, e => by cases e
  | .str _ :: _, _, _, _, e => by cases e
  | .list _ :: _, _, _, _, e => by cases e
  | .dict _ :: _, _, _, _, e => by cases e
section
variable {X : Cx} {U : WX}
theorem cr_lenT : CallR X (.builtin "len") (fun vs H Q => ∃ (a : Addr) (L : List (Addr × List Int)), vs = [V.ref a] ∧ H a = some (SetTO X.prog X.w a L) ∧ (∀ p ∈ L, SqT X.K H p.1 (p.2.map V.int)) ∧ ∀ n : Nat, n = L.length → (L.map (·.2)).Nodup → Q (.int (n : Int)) H) := by
  intro pins s σ H vs us Q I r h
  obtain ⟨a, L, rfl, ha, hk, q⟩ := h
  have R0 : SetT0 X.prog X.w s.heap a L := (I.hok a _ ha).1
  obtain ⟨es, ep, t, R⟩ := R0.full fun p hp => I.isT (hk p hp)
  rw [Vals.ref1 r]
  obtain ⟨o, ho, hex, hd⟩ := R.ob
  have hs := R.size
  have hf := R.few
  refine call_len_set ho hex hd R.fits (by omega) ⟨.int (es.size : Int), H, I.tok _, ⟨_, rfl⟩, q es.size hs R.nd⟩
def pLenSet : W → R W
  | .dat (.list ds) => match asTups ds with
    | some ks => if ks.length < 64 then .ok (wI (ddup ks).length) else .no
    | none => .no
  | _ => .no
theorem ve_lenset {e : Expr} {f : Rho → R W} {p p2 pos pos2 : Pos} (hc : X.calm = true) (hu : X.A.units + 65 < cLine) (hm : X.mg "len" = none) (hm2 : X.mg "set" = none) (he : VE X U e f) (hg : Gl X "len" := by rfl) (hg2 : Gl X "set" := by rfl)
    (hs : starEach [e] X.env = (false, eval e X.env) :: starEach [] X.env := by rfl) (hpl : (backTo pos2 (starEach [] X.env)).any (·.1) = false := by rfl)
    (hs2 : starEach [.Call (.Name "set" p2) [e] [] pos2] X.env = (false, eval (.Call (.Name "set" p2) [e] [] pos2) X.env) :: starEach [] X.env := by rfl) (hpl2 : (backTo pos (starEach [] X.env)).any (·.1) = false := by rfl) :
    VE X U (.Call (.Name "len" p) [.Call (.Name "set" p2) [e] [] pos2] [] pos) (f1 pLenSet f) := by
  refine PE.imp (pe_callB cr_lenT hg hm PySem.boot_len (pa_cons (pe_callTy (cr_setOfT hc (by omega)) hg2 hm2 PyProof.Rows.boot_set (pa_cons he pa_nil hs) (by decide) (by decide) hs hpl) pa_nil hs2) (by decide) (by decide) hs2 hpl2) fun σ H Q ⟨B, ρ, F, k, q⟩ => ?_
  unfold f1 at q
  rw [run_bind] at q
  refine ⟨B, ρ, F, k, run_mono q (fun w _ q v F1 H1 e1 r1 => ?_) fun _ q => q⟩
  unfold pLenSet at q
  split at q
  · rename_i ds
    split at q
    · rename_i ks hks
      obtain ⟨hl, q⟩ := run_if q
      obtain ⟨l, xs, rfl, h1, h2⟩ := r1
      obtain ⟨ps, rfl, p2, p3⟩ := asTups_rep h2 hks
      have hlen : ps.length < 64 := by rw [← p2, List.length_map] at hl; exact hl
      refine ⟨l, ps, rfl, .of (e1.sub _ _ h1), fun p hp => .of (e1.sub _ _ (p3 p hp)), hlen, fun a L ha hL1 hL2 => ?_⟩
      refine ⟨a, L, rfl, upd_same, fun p hp => ?_, fun n hn nd => ?_⟩
      · have hp2 := e1.sub _ _ (p3 p (hL1 p hp))
        have hne : p.1 ≠ a := fun e => by rw [e, ha] at hp2; cases hp2
        exact .of (by rw [upd_ne hne]; exact hp2)
      · have e2 : (n : Int) = ((ddup ks).length : Int) := by
          rw [hn, ← List.length_map (f := (·.2)) (as := L), same_len nd (m := ks)]
          · intro x hx
            obtain ⟨p, hp, rfl⟩ := List.mem_map.mp hx
            rw [← p2]; exact List.mem_map_of_mem (hL1 p hp)
          · intro x hx
            rw [← p2] at hx
            obtain ⟨p, hp, rfl⟩ := List.mem_map.mp hx
            exact hL2 p hp
        rw [e2]
        exact q _ _ _ (e1.trans (.newO e1.sub ha)) rfl
    · exact q.elim
  · exact q.elim
end
theorem asTups_C (l : List C2) : asTups (l.map pC) = some (l.map fun c => [c.1, c.2]) := by
  induction l with
  | nil => rfl
  | cons a l ih => simp only [List.map_cons, asTups, pC]; show ((asTups (l.map pC)).map _) = _; rw [ih]; rfl
theorem ddup_C (l : List C2) : (ddup (l.map fun c => [c.1, c.2])).length = (ddup l).length := by
  induction l with
  | nil => rfl
  | cons a l ih =>
    have h : ([a.1, a.2] ∈ l.map fun c => [c.1, c.2]) ↔ a ∈ l := by
      rw [List.mem_map]
      constructor
      · rintro ⟨c, hc, e⟩
        simp at e
        have : c = a := Prod.ext e.1 e.2
        exact this ▸ hc
      · intro h; exact ⟨a, h, rfl⟩
    simp only [List.map_cons, ddup]
    by_cases c : a ∈ l
    · rw [if_pos c, if_pos (h.mpr c)]; exact ih
    · rw [if_neg c, if_neg (fun q => c (h.mp q))]; simp only [List.length_cons, ih]
theorem pLenSet_Cs (l : List C2) (h : l.length < 64) : pLenSet (wCs l) = .ok (wI (ddup l).length) := by
  show (match asTups (l.map pC) with | some ks => if ks.length < 64 then R.ok (wI (ddup ks).length) else .no | none => .no) = _
  rw [asTups_C]
  simp only [List.length_map]
  rw [if_pos h, ddup_C]
end Vd

/-! Val19: int, sum, max, min, abs, tuple, list. -/
namespace Vd
open L2 PyProof.Rows PySem PySem.Spec
section
variable {X : Cx} {U : WX}
def pInt : List W → R W
  | [.dat (.int i)] => .ok (wI i)
  | [.dat (.bool b)] => .ok (wI (if b then 1 else 0))
  | _ => .no
theorem cal_int : VCal X (.type "int") pInt := .mk call_int1 fun F H xs ws Q s rb q => by
  unfold pInt at q
  split at q
  · obtain ⟨v, r, rfl, h1, h3⟩ := rb
    cases h3; cases h1
    exact .inl ⟨_, rfl, q _ F H (.refl s) rfl⟩
  · obtain ⟨v, r, rfl, h1, h3⟩ := rb
    cases h3; cases h1
    exact .inr ⟨_, rfl, q _ F H (.refl s) rfl⟩
  · exact q.elim
theorem nx_pInt : NoxL pInt := fun ws c => by unfold pInt; split <;> (intro h; cases h)
def pAbs : List W → R W
  | [.dat (.int i)] => .ok (wI (if i < 0 then -i else i))
  | _ => .no
theorem cal_abs : VCal X (.builtin "abs") pAbs := .mk call_abs fun F H xs ws Q s rb q => by
  unfold pAbs at q
  split at q
  · obtain ⟨v, r, rfl, h1, h3⟩ := rb
    cases h3; cases h1
    exact ⟨_, rfl, q _ F H (.refl s) rfl⟩
  · exact q.elim
theorem nx_pAbs : NoxL pAbs := fun ws c => by unfold pAbs; split <;> (intro h; cases h)
def pSum : List W → R W
  | [.dat (.list ds)] => match asInts ds with
    | some ns => .ok (wI ns.sum)
    | none => .no
  | _ => .no
theorem cal_sum (hc : X.calm = true) : VCal X (.builtin "sum") pSum := .mk (cr_sum hc) fun F H xs ws Q s rb q => by
  unfold pSum at q
  split at q
  · split at q
    · rename_i ns hns
      obtain ⟨v, r, rfl, ⟨a, ys, rfl, h1, h2⟩, h3⟩ := rb
      cases h3
      have e := asInts_rep h2 hns
      subst e
      exact ⟨a, ns, rfl, .of h1, q _ F H (.refl s) rfl⟩
    · exact q.elim
  · exact q.elim
theorem nx_pSum : NoxL pSum := fun ws c => by unfold pSum; split <;> first | (intro h; cases h; done) | (split <;> (intro h; cases h))
def maxI : List Int → Int
  | [] => 0
  | [a] => a
  | a :: b :: l => if maxI (b :: l) ≤ a then a else maxI (b :: l)
def minI : List Int → Int
  | [] => 0
  | [a] => a
  | a :: b :: l => if a ≤ minI (b :: l) then a else minI (b :: l)
theorem maxI_ok : ∀ {l : List Int}, l ≠ [] → maxI l ∈ l ∧ ∀ y ∈ l, y ≤ maxI l
  | [], h => (h rfl).elim
  | [a], _ => ⟨by simp [maxI], fun y hy => by simp at hy; subst hy; exact Int.le_refl _⟩
  | a :: b :: l, _ => by
    obtain ⟨h1, h2⟩ := maxI_ok (l := b :: l) (by simp)
    unfold maxI
    split
    · rename_i c
      refine ⟨List.mem_cons_self, fun y hy => ?_⟩
      rcases List.mem_cons.mp hy with rfl | hy
      · exact Int.le_refl _
      · have := h2 y hy; omega
    · rename_i c
      refine ⟨List.mem_cons_of_mem _ h1, fun y hy => ?_⟩
      rcases List.mem_cons.mp hy with rfl | hy
      · omega
      · exact h2 y hy
theorem minI_ok : ∀ {l : List Int}, l ≠ [] → minI l ∈ l ∧ ∀ y ∈ l, minI l ≤ y
  | [], h => (h rfl).elim
  | [a], _ => ⟨by simp [minI], fun y hy => by simp at hy; subst hy; exact Int.le_refl _⟩
  | a :: b :: l, _ => by
    obtain ⟨h1, h2⟩ := minI_ok (l := b :: l) (by simp)
    unfold minI
    split
    · rename_i c
      refine ⟨List.mem_cons_self, fun y hy => ?_⟩
      rcases List.mem_cons.mp hy with rfl | hy
      · exact Int.le_refl _
      · have := h2 y hy; omega
    · rename_i c
      refine ⟨List.mem_cons_of_mem _ h1, fun y hy => ?_⟩
      rcases List.mem_cons.mp hy with rfl | hy
      · omega
      · exact h2 y hy
def pMax : List W → R W
  | [.dat (.list ds)] => match asInts ds with
    | some ns => if ns = [] then .no else .ok (wI (maxI ns))
    | none => .no
  | [.dat (.int i), .dat (.int j)] => .ok (wI (if j > i then j else i))
  | _ => .no
theorem cal_max (hc : X.calm = true) : VCal X (.builtin "max") pMax := .mk (CallR.or (cr_max hc) (call_max2 hc)) fun F H xs ws Q s rb q => by
  unfold pMax at q
  split at q
  · split at q
    · rename_i ns hns
      split at q
      · exact q.elim
      · rename_i hne
        obtain ⟨v, r, rfl, ⟨a, ys, rfl, h1, h2⟩, h3⟩ := rb
        cases h3
        have e := asInts_rep h2 hns
        subst e
        refine .inl ⟨a, ns, rfl, .of h1, List.length_pos_iff.mpr hne, fun m hm hub => ?_⟩
        obtain ⟨k1, k2⟩ := maxI_ok hne
        have : m = maxI ns := Int.le_antisymm (k2 m hm) (hub _ k1)
        rw [this]
        exact q _ F H (.refl s) rfl
    · exact q.elim
  · obtain ⟨v, r, rfl, h1, v2, r2, rfl, h2, h3⟩ := rb
    cases h3; cases h1; cases h2
    exact .inr ⟨_, _, rfl, q _ F H (.refl s) rfl⟩
  · exact q.elim
theorem nx_pMax : NoxL pMax := fun ws c => by
  unfold pMax
  split
  · split
    · split <;> (intro h; cases h)
    · intro h; cases h
  · intro h; cases h
  · intro h; cases h
def pMin : List W → R W
  | [.dat (.list ds)] => match asInts ds with
    | some ns => if ns = [] then .no else .ok (wI (minI ns))
    | none => .no
  | [.dat (.int i), .dat (.int j)] => .ok (wI (if j < i then j else i))
  | _ => .no
theorem cal_min (hc : X.calm = true) : VCal X (.builtin "min") pMin := .mk (CallR.or (cr_min hc) (call_min2 hc)) fun F H xs ws Q s rb q => by
  unfold pMin at q
  split at q
  · split at q
    · rename_i ns hns
      split at q
      · exact q.elim
      · rename_i hne
        obtain ⟨v, r, rfl, ⟨a, ys, rfl, h1, h2⟩, h3⟩ := rb
        cases h3
        have e := asInts_rep h2 hns
        subst e
        refine .inl ⟨a, ns, rfl, .of h1, List.length_pos_iff.mpr hne, fun m hm hub => ?_⟩
        obtain ⟨k1, k2⟩ := minI_ok hne
        have : m = minI ns := Int.le_antisymm (hub _ k1) (k2 m hm)
        rw [this]
        exact q _ F H (.refl s) rfl
    · exact q.elim
  · obtain ⟨v, r, rfl, h1, v2, r2, rfl, h2, h3⟩ := rb
    cases h3; cases h1; cases h2
    exact .inr ⟨_, _, rfl, q _ F H (.refl s) rfl⟩
  · exact q.elim
theorem nx_pMin : NoxL pMin := fun ws c => by
  unfold pMin
  split
  · split
    · split <;> (intro h; cases h)
    · intro h; cases h
  · intro h; cases h
  · intro h; cases h
def pTuple : List W → R W
  | [.dat (.list ds)] => .ok (.dat (.tuple ds))
  | [.dat (.tuple ds)] => .ok (.dat (.tuple ds))
  | _ => .no
theorem cal_tuple : VCal X (.type "tuple") pTuple := .mk call_tuple_of fun F H xs ws Q s rb q => by
  unfold pTuple at q
  split at q
  · obtain ⟨v, r, rfl, ⟨a, ys, rfl, h1, h2⟩, h3⟩ := rb
    cases h3
    exact ⟨a, ys, rfl, .inl ⟨.of h1, fun l hl => q _ _ _ (.new s hl) ⟨l, ys, rfl, upd_same, h2.mono (.upd (s.nn hl))⟩⟩⟩
  · obtain ⟨v, r, rfl, ⟨a, ys, rfl, h1, h2⟩, h3⟩ := rb
    cases h3
    exact ⟨a, ys, rfl, .inr ⟨.of (s _ _ h1), q _ F H (.refl s) ⟨a, ys, rfl, h1, h2⟩⟩⟩
  · exact q.elim
theorem nx_pTuple : NoxL pTuple := fun ws c => by unfold pTuple; split <;> (intro h; cases h)
def pList : List W → R W
  | [.dat (.list ds)] => .ok (.dat (.list ds))
  | [.dat (.tuple ds)] => .ok (.dat (.list ds))
  | _ => .no
theorem cal_list (hc : X.calm = true) : VCal X (.type "list") pList := .mk call_list_of fun F H xs ws Q s rb q => by
  unfold pList at q
  split at q
  · obtain ⟨v, r, rfl, ⟨a, ys, rfl, h1, h2⟩, h3⟩ := rb
    cases h3
    exact ⟨a, ys, rfl, .inl (.of h1), fun l hl => q _ _ _ (.new s hl) ⟨l, ys, rfl, upd_same, h2.mono (.upd (s.nn hl))⟩⟩
  · obtain ⟨v, r, rfl, ⟨a, ys, rfl, h1, h2⟩, h3⟩ := rb
    cases h3
    exact ⟨a, ys, rfl, .inr (.of (s _ _ h1)), fun l hl => q _ _ _ (.new s hl) ⟨l, ys, rfl, upd_same, h2.mono (.upd (s.nn hl))⟩⟩
  · exact q.elim
theorem nx_pList : NoxL pList := fun ws c => by unfold pList; split <;> (intro h; cases h)
/-! ### list(range(..)) -/
def rgD (n : Nat) : List Pd := (List.range n).map fun k : Nat => .int (k : Nat)
def pLstRg : W → R W
  | .dat (.int n) => if 0 ≤ n ∧ n ≤ 16777216 then .ok (.dat (.list (rgD n.toNat))) else .no
  | _ => .no
theorem dsL_ints {F : Hp} : ∀ l : List Int, DsL F (l.map .int) (l.map V.int)
  | [] => rfl
  | a :: l => ⟨.int a, l.map V.int, rfl, rfl, dsL_ints l⟩
theorem ve_lstrng1 {a : Expr} {f : Rho → R W} {p p2 pos pos2 : Pos} (hc : X.calm = true) (hm : X.mg "list" = none) (hm2 : X.mg "range" = none) (ha : VB X U a f) (hg : Gl X "list" := by rfl) (hg2 : Gl X "range" := by rfl)
    (na : starEach [a] X.env = (false, eval a X.env) :: starEach [] X.env := by rfl) (nb : starEach [.Call (.Name "range" p2) [a] [] pos2] X.env = (false, eval (.Call (.Name "range" p2) [a] [] pos2) X.env) :: starEach [] X.env := by rfl) :
    VE X U (.Call (.Name "list" p) [.Call (.Name "range" p2) [a] [] pos2] [] pos) (f1 pLstRg f) := by
  refine PE.imp (pe_listRg hc hg hm (prg_1 hg2 hm2 ha na) nb) fun σ H Q ⟨B, ρ, F, k, q⟩ => ?_
  unfold f1 at q
  rw [run_bind] at q
  refine ⟨B, ρ, F, k, run_mono q (fun w hw q v F1 H1 e1 r1 => ?_) fun _ q => q⟩
  clear hw
  unfold pLstRg at q
  split at q
  · rename_i n
    obtain ⟨hl, q⟩ := run_if q
    refine ⟨n, r1, .of_le (by omega) hl.2 (by omega) hl.1, fun l hl2 => ?_⟩
    have e : rgV 0 n = ((List.range n.toNat).map fun k : Nat => (k : Int)).map V.int := by
      unfold rgV; rw [List.map_map, Int.sub_zero]; apply List.map_congr_left; intro k _; simp
    have e2 : rgD n.toNat = ((List.range n.toNat).map fun k : Nat => (k : Int)).map .int := by
      unfold rgD; rw [List.map_map]; rfl
    refine q _ _ _ (e1.trans (.new e1.sub hl2)) ⟨l, _, rfl, upd_same, ?_⟩
    rw [e, e2]
    exact dsL_ints _
  · exact q.elim
end
end Vd

/-! Val22: text * int, tuple * 1. -/
namespace Vd
open L2 PyProof.Rows PySem PySem.Spec PySem.Calls
theorem rep_one (c : Nat) : ∀ n : Nat, (List.replicate n (S [c]).cps).foldl (· ++ ·) #[] = (List.replicate n c).toArray := by
  have h : ∀ (n : Nat) (a : Array Nat), (List.replicate n (S [c]).cps).foldl (· ++ ·) a = a ++ (List.replicate n c).toArray := by
    intro n
    induction n with
    | zero => intro a; simp
    | succ n ih =>
      intro a
      rw [List.replicate_succ, List.foldl_cons, ih, List.replicate_succ]
      apply Array.toList_inj.mp
      simp [S]
  intro n
  rw [h]; simp
theorem tup_once (l : Addr) (items : Array Value) (n : Nat) (dd : Option Addr) (sl : Array (Option Value)) (u : Tok) : Meets (Builtin.«tuple.__mul__» ⟨[.ref l, .int 1 u], []⟩) (fun _ R s => s.heap.get? l = some { cls := .type "tuple", dict := dd, data := .seq items n, slots := sl } ∧ R (.ok (.ret (Value.ref l))) s) :=
  .of_wp fun prog w A R s h => by
    obtain ⟨hp, g, d, tk, os⟩ := s
    obtain ⟨at_, h⟩ := h
    have fx := AutoSeq1.idx_int
    have b1 : (items.isEmpty || (1 : Int) == 1) = true := by cases items.isEmpty <;> rfl
    have b0 : (decide ((1 : Int) < -(2 ^ 63)) || decide ((1 : Int) ≥ 2 ^ 63)) = false := by decide
    wp_walk using wpAny_loadPart' at_
    repeat (first
      | (refine wpAny_ite_false (decide_eq_false (by rw [b0]; exact Bool.false_ne_true)) ?_; wp_walk using wpAny_loadPart' at_)
      | (refine wpAny_ite_true (decide_eq_true b1) ?_; wp_walk using wpAny_loadPart' at_))
    exact ⟨_, rfl, h⟩
section
variable {X : Cx}
theorem op_strRep : OpR X (binaryOp .Mult) (fun x y H Q => ∃ (c : Nat) (k : Int), x = .str (S [c]) ∧ y = .int k ∧ 1 ≤ k ∧ k ≤ 1000 ∧ Q (.str (S (List.replicate k.toNat c))) H) := by
  intro pins s σ H x y v u Q I rx ry h
  obtain ⟨c, k, rfl, rfl, h1, h2, q⟩ := h
  obtain ⟨t, rfl⟩ := rx
  obtain ⟨t2, rfl⟩ := ry
  have l1 : (S [c]).length = 1 := rfl
  refine PySem.P.mul_str (by rw [decide_eq_false (by omega), decide_eq_false (by omega)]; rfl) (fun _ _ => ?_) (fun _ _ => ?_) ?_
  · rw [l1]
    have : (1 : Int) ≤ (2 ^ 63 - 1) / k := Int.le_ediv_of_mul_le (by omega) (by omega)
    omega
  · rw [l1]; unfold Builtin.Str.tooLong; exact decide_eq_false (by unfold sizeLine; omega)
  · rw [if_neg (by omega)]
    by_cases e : k = 1
    · subst e
      rw [if_pos (by rfl)]
      exact ⟨.str (S [c]), H, I, ⟨_, rfl⟩, q⟩
    · rw [if_neg (by rw [l1]; simp [e])]
      have e2 : (⟨(List.replicate k.toNat (S [c]).cps).foldl (· ++ ·) #[]⟩ : Str) = S (List.replicate k.toNat c) := by rw [rep_one]
      rw [e2]
      exact ⟨by rw [Slen, List.length_replicate]; unfold sizeLine; omega, ⟨.str (S (List.replicate k.toNat c)), H, I.tok _, ⟨_, rfl⟩, q⟩⟩
theorem op_tupOnce : OpR X (binaryOp .Mult) (fun x y H Q => ∃ (l : Addr) (xs : List V), x = .ref l ∧ y = .int 1 ∧ SqT X.K H l xs ∧ Q (.ref l) H) := by
  intro pins s σ H x y v u Q I rx ry h
  obtain ⟨l, xs, rfl, rfl, hT, q⟩ := h
  cases rx
  obtain ⟨t, rfl⟩ := ry
  obtain ⟨its, r, ⟨⟨cls, dd, data, sl⟩, ho, hc, n, hd⟩, hs⟩ := I.tuple hT
  simp only at hc hd
  subst hc hd
  exact wpAny_binaryOp_repeat_ref (T := "tuple") (U := "int") (by decide) ⟨_, ho, rfl⟩ (fun s' => typeIs_int s' 1 t) noFill_tuple_mul F.fills_int_mul F.slot_int_rmul repeat_tuple F.slot_int_index.lookup
    (call_meets F.slot_int_rmul (typeIs_int s 1 t) F.entry_int_rmul (F.args_int_rmul_2 _ _) (int_rmul_tuple 1 t l its.toArray n dd sl)
      ⟨ho, rfl, ⟨_, ho, rfl⟩, call_meets F.slot_tuple_mul ⟨_, ho, rfl⟩ F.entry_tuple_mul (F.args_tuple_mul_2 _ _) (tup_once l its.toArray n dd sl t) ⟨ho, ⟨.ref l, H, I, rfl, q⟩⟩⟩)
/-- times: numbers, lists, tuples, one sign -/
noncomputable def pMulX (a b : W) : R W := match a, b with
  | .dat (.str z), .dat (.int k) => match z.cps.toList with
    | [c] => if 1 ≤ k ∧ k ≤ 1000 then .ok (.dat (.str (S (List.replicate k.toNat c)))) else .no
    | _ => .no
  | .dat (.tuple xs), .dat (.int k) => if k = 1 then .ok (.dat (.tuple xs)) else pMul a b
  | _, _ => pMul a b
theorem nx_pMulX : Nox pMulX := fun a b c => by
  unfold pMulX
  split
  · split
    · split <;> (intro h; cases h)
    · intro h; cases h
  · split
    · intro h; cases h
    · exact nx_pMul _ _ _
  · exact nx_pMul _ _ _
theorem op_pMulX : VOp X (binaryOp .Mult) pMulX := by
  obtain ⟨r, h1, h2⟩ := op_pMul (X := X)
  refine ⟨_, OpR.or h1 (OpR.or op_strRep op_tupOnce), fun F H x y a b Q s ra rb q => ?_⟩
  unfold pMulX at q
  split at q
  · rename_i z k
    split at q
    · rename_i c hz
      obtain ⟨hl, q⟩ := run_if q
      cases ra
      cases rb
      have ez : z = S [c] := by
        apply TL.ext_tl
        exact hz
      subst ez
      exact .inr (.inl ⟨c, k, rfl, rfl, hl.1, hl.2, q _ F H (.refl s) rfl⟩)
    · exact q.elim
  · rename_i xs k
    split at q
    · rename_i hk
      subst hk
      cases rb
      obtain ⟨p, ys, rfl, e1, e2⟩ := ra
      exact .inr (.inr ⟨p, ys, rfl, rfl, .of (s _ _ e1), q _ F H (.refl s) ⟨p, ys, rfl, e1, e2⟩⟩)
    · exact .inl (h2 F H x y _ _ Q s ra rb q)
  · exact .inl (h2 F H x y _ _ Q s ra rb q)
end
end Vd

/-! Srt: sorted rows of cells. -/
namespace Vd
open L2 PyProof.Rows PySem PySem.Spec
def leC (a b : C2) : Bool := decide (a.1 < b.1 ∨ (a.1 = b.1 ∧ a.2 ≤ b.2))
theorem leD_C (a b : C2) : leD (pC a) (pC b) = leC a b := by
  show (!PySem.W.dataLt (pC b) (pC a)) = _
  unfold pC leC
  rw [PySem.W.dataLt_ii]
  by_cases h : b.1 < a.1 ∨ (b.1 = a.1 ∧ b.2 < a.2)
  · rw [decide_eq_true h, decide_eq_false (by omega)]; rfl
  · rw [decide_eq_false h, decide_eq_true (by omega)]; rfl
theorem leC_trans (a b c : C2) (h : leC a b = true) (k : leC b c = true) : leC a c = true := by
  unfold leC at *
  simp only [decide_eq_true_eq] at *
  omega
theorem leC_total (a b : C2) : (leC a b || leC b a) = true := by
  unfold leC
  simp only [Bool.or_eq_true, decide_eq_true_eq]
  omega
theorem leC_anti {a b : C2} (h : leC a b = true) (k : leC b a = true) : a = b := by
  unfold leC at *
  simp only [decide_eq_true_eq] at *
  exact Prod.ext (by omega) (by omega)
theorem sorted_eq : ∀ {l m : List C2}, l.Pairwise (fun a b => leC a b = true) → m.Pairwise (fun a b => leC a b = true) → l.Perm m → l = m
  | [], m, _, _, p => by rw [List.nil_perm] at p; exact p.symm
  | a :: l, m, h1, h2, p => by
    cases m with
    | nil => exact absurd p.length_eq (by simp)
    | cons b m =>
      rw [List.pairwise_cons] at h1 h2
      have e : a = b := by
        have ha : a ∈ b :: m := p.mem_iff.mp List.mem_cons_self
        have hb : b ∈ a :: l := p.mem_iff.mpr List.mem_cons_self
        rcases List.mem_cons.mp ha with q | q
        · exact q
        · rcases List.mem_cons.mp hb with q2 | q2
          · exact q2.symm
          · exact leC_anti (h1.1 b q2) (h2.1 a q)
      subst e
      rw [sorted_eq h1.2 h2.2 (List.perm_cons a |>.mp p)]
theorem mergeC (l : List C2) : (l.mergeSort fun a b => leD (pC a) (pC b)) = l.mergeSort leC := by
  have : (fun a b => leD (pC a) (pC b)) = leC := funext fun a => funext fun b => leD_C a b
  rw [this]
theorem mergeC_sorted (l : List C2) : (l.mergeSort leC).Pairwise (fun a b => leC a b = true) := List.pairwise_mergeSort (fun a b c => leC_trans a b c) leC_total l
end Vd

/-! Bfs: going out row by row, in plain Lean. -/
namespace Bf
section
variable {C : Type} [DecidableEq C]
theorem nodup_le : ∀ {l m : List C}, l.Nodup → (∀ a ∈ l, a ∈ m) → l.length ≤ m.length
  | [], m, _, _ => Nat.zero_le _
  | a :: l, m, h, s => by
    rw [List.nodup_cons] at h
    have ha := s a List.mem_cons_self
    have ih := nodup_le (m := m.erase a) h.2 fun x hx => by
      have hne : x ≠ a := fun e => h.1 (e ▸ hx)
      exact (List.mem_erase_of_ne hne).mpr (s x (List.mem_cons_of_mem _ hx))
    rw [List.length_erase_of_mem ha] at ih
    have := List.length_pos_of_mem ha
    simp only [List.length_cons]; omega
variable (nb : C → List C) (ok : C → Bool)
abbrev Fd (C : Type) := List (C × Option C)
def keys (f : Fd C) : List C := f.map (·.1)
def bT (here : C) (s : Fd C × List C) (t : C) : Fd C × List C := if t ∉ s.1.map (·.1) ∧ ok t = true then (s.1 ++ [(t, some here)], s.2 ++ [t]) else s
def bH (s : Fd C × List C) (here : C) : Fd C × List C := (nb here).foldl (bT ok here) s
def bL (f : Fd C) (row : List C) : Fd C × List C := row.foldl (bH nb ok) (f, [])
def bS : Nat → Fd C → List C → Fd C
  | 0, f, _ => f
  | n + 1, f, row => if row = [] then f else bS n (bL nb ok f row).1 (bL nb ok f row).2
/-- what a fold leaves: what is added, and where from -/
structure Lay (f : Fd C) (row : List C) (done : C → C → Prop) (s : Fd C × List C) : Prop where
  ex : ∃ ad : Fd C, s.1 = f ++ ad ∧ s.2 = ad.map (·.1) ∧ ∀ p ∈ ad, ∃ h ∈ row, p.2 = some h ∧ p.1 ∈ nb h ∧ ok p.1 = true
  nd : (keys s.1).Nodup
  all : ∀ h t, done h t → ok t = true → t ∈ keys s.1
variable {nb ok}
theorem Lay.stepT {f : Fd C} {row : List C} {done : C → C → Prop} {s : Fd C × List C} (L : Lay nb ok f row done s) {h t : C} (hh : h ∈ row) (ht : t ∈ nb h) : Lay nb ok f row (fun a b => done a b ∨ (a = h ∧ b = t)) (bT ok h s t) := by
  unfold bT
  by_cases c : t ∉ s.1.map (·.1) ∧ ok t = true
  · rw [if_pos c]
    obtain ⟨ad, e1, e2, e3⟩ := L.ex
    refine ⟨⟨ad ++ [(t, some h)], by rw [e1]; simp, by rw [e2]; simp, fun p hp => ?_⟩, ?_, fun a b hd hb => ?_⟩
    · rcases List.mem_append.mp hp with hp | hp
      · exact e3 p hp
      · simp at hp; subst hp; exact ⟨h, hh, rfl, ht, c.2⟩
    · show (keys (s.1 ++ [(t, some h)])).Nodup
      unfold keys
      rw [List.map_append, List.nodup_append]
      refine ⟨L.nd, by simp, fun a ha b hb => ?_⟩
      simp at hb
      subst hb
      exact fun e => c.1 (e ▸ ha)
    · show b ∈ keys (s.1 ++ [(t, some h)])
      unfold keys
      rw [List.map_append]
      rcases hd with hd | ⟨_, rfl⟩
      · exact List.mem_append_left _ (L.all a b hd hb)
      · simp
  · rw [if_neg c]
    refine ⟨L.ex, L.nd, fun a b hd hb => ?_⟩
    rcases hd with hd | ⟨_, rfl⟩
    · exact L.all a b hd hb
    · exact Classical.byContradiction fun q => c ⟨q, hb⟩
theorem Lay.imp {f : Fd C} {row : List C} {done done' : C → C → Prop} {s : Fd C × List C} (L : Lay nb ok f row done s) (i : ∀ a b, done' a b → done a b) : Lay nb ok f row done' s := ⟨L.ex, L.nd, fun a b h => L.all a b (i a b h)⟩
theorem Lay.foldT {f : Fd C} {row : List C} {h : C} (hh : h ∈ row) : ∀ (l : List C) {done : C → C → Prop} {s : Fd C × List C}, Lay nb ok f row done s → (∀ t ∈ l, t ∈ nb h) → Lay nb ok f row (fun a b => done a b ∨ (a = h ∧ b ∈ l)) (l.foldl (bT ok h) s)
  | [], done, s, L, _ => L.imp fun a b q => q.elim id fun q => by simp at q
  | t :: l, done, s, L, hl => by
    rw [List.foldl_cons]
    refine ((L.stepT hh (hl t List.mem_cons_self)).foldT hh l fun x hx => hl x (List.mem_cons_of_mem _ hx)).imp fun a b q => ?_
    rcases q with q | ⟨rfl, q⟩
    · exact .inl (.inl q)
    · rcases List.mem_cons.mp q with rfl | q
      · exact .inl (.inr ⟨rfl, rfl⟩)
      · exact .inr ⟨rfl, q⟩
theorem Lay.foldH {f : Fd C} {row : List C} : ∀ (l : List C) {done : C → C → Prop} {s : Fd C × List C}, Lay nb ok f row done s → (∀ h ∈ l, h ∈ row) → Lay nb ok f row (fun a b => done a b ∨ (a ∈ l ∧ b ∈ nb a)) (l.foldl (bH nb ok) s)
  | [], done, s, L, _ => L.imp fun a b q => q.elim id fun q => by simp at q
  | h :: l, done, s, L, hl => by
    rw [List.foldl_cons]
    refine ((L.foldT (hl h List.mem_cons_self) (nb h) fun _ q => q).foldH l fun x hx => hl x (List.mem_cons_of_mem _ hx)).imp fun a b q => ?_
    rcases q with q | ⟨q, q2⟩
    · exact .inl (.inl q)
    · rcases List.mem_cons.mp q with rfl | q
      · exact .inl (.inr ⟨rfl, q2⟩)
      · exact .inr ⟨q, q2⟩
theorem bL_lay {f : Fd C} (nd : (keys f).Nodup) (row : List C) : Lay nb ok f row (fun a b => a ∈ row ∧ b ∈ nb a) (bL nb ok f row) := by
  have h0 : Lay nb ok f row (fun _ _ => False) (f, []) := ⟨⟨[], by simp, by simp, by simp⟩, nd, fun _ _ q => q.elim⟩
  exact (h0.foldH row fun _ h => h).imp fun a b q => .inr q
/-- c is reached from one by n steps -/
inductive Rch (nb : C → List C) (ok : C → Bool) (one : C) : Nat → C → Prop
  | zero : Rch nb ok one 0 one
  | succ {n : Nat} {x y : C} : Rch nb ok one n x → y ∈ nb x → ok y = true → Rch nb ok one (n + 1) y
def Dist (nb : C → List C) (ok : C → Bool) (one : C) (n : Nat) (c : C) : Prop := Rch nb ok one n c ∧ ∀ i, i < n → ¬ Rch nb ok one i c
theorem Rch.zero_eq {one c : C} (h : Rch nb ok one 0 c) : c = one := by cases h; rfl
theorem dist_ex {one c : C} : ∀ {n : Nat}, Rch nb ok one n c → ∃ j, j ≤ n ∧ Dist nb ok one j c := by
  intro n
  induction n using Nat.strongRecOn with
  | _ n ih =>
    intro h
    by_cases q : ∃ i, i < n ∧ Rch nb ok one i c
    · obtain ⟨i, h1, h2⟩ := q
      obtain ⟨j, h3, h4⟩ := ih i h1 h2
      exact ⟨j, by omega, h4⟩
    · exact ⟨n, Nat.le_refl _, h, fun i hi hr => q ⟨i, hi, hr⟩⟩
theorem Dist.uniq {one c : C} {i j : Nat} (h : Dist nb ok one i c) (g : Dist nb ok one j c) : i = j := by
  rcases Nat.lt_trichotomy i j with q | q | q
  · exact (g.2 i q h.1).elim
  · exact q
  · exact (h.2 j q g.1).elim
/-- ahead of the row of distance k -/
structure Inv (nb : C → List C) (ok : C → Bool) (one : C) (k : Nat) (f : Fd C) (row : List C) : Prop where
  nd : (keys f).Nodup
  a : ∀ c ∈ keys f, ∃ j, j ≤ k ∧ Rch nb ok one j c
  b : ∀ j c, j ≤ k → Rch nb ok one j c → c ∈ keys f
  r : ∀ c ∈ row, Dist nb ok one k c
  r' : ∀ c, Dist nb ok one k c → c ∈ row
  p : ∀ c q, (c, some q) ∈ f → ∃ j, Dist nb ok one j q ∧ Dist nb ok one (j + 1) c ∧ c ∈ nb q ∧ ok c = true
  q : ∀ c, (c, none) ∈ f → c = one
  z : (one, none) ∈ f
theorem Inv.start (one : C) : Inv nb ok one 0 [(one, none)] [one] where
  nd := by simp [keys]
  a := fun c h => by simp [keys] at h; subst h; exact ⟨0, Nat.le_refl _, .zero⟩
  b := fun j c hj h => by
    have : j = 0 := by omega
    subst this
    rw [h.zero_eq]; simp [keys]
  r := fun c h => by simp at h; subst h; exact ⟨.zero, fun i hi => by omega⟩
  r' := fun c h => by rw [h.1.zero_eq]; simp
  p := fun c q h => by simp at h
  q := fun c h => by simp at h; exact h
  z := by simp
theorem Inv.step {one : C} {k : Nat} {f : Fd C} {row : List C} (I : Inv nb ok one k f row) : Inv nb ok one (k + 1) (bL nb ok f row).1 (bL nb ok f row).2 := by
  have L := bL_lay (nb := nb) (ok := ok) I.nd row
  obtain ⟨ad, e1, e2, e3⟩ := L.ex
  have nd := L.nd
  have all := L.all
  rw [e1] at nd all ⊢
  rw [e2]
  have hin : ∀ p ∈ ad, Dist nb ok one (k + 1) p.1 := fun p hp => by
    obtain ⟨h, h1, h2, h3, h4⟩ := e3 p hp
    refine ⟨.succ (I.r h h1).1 h3 h4, fun i hi hr => ?_⟩
    have hk := I.b i p.1 (by omega) hr
    unfold keys at nd hk
    rw [List.map_append, List.nodup_append] at nd
    exact nd.2.2 p.1 hk p.1 (List.mem_map_of_mem hp) rfl
  have hb : ∀ j c, j ≤ k + 1 → Rch nb ok one j c → c ∈ keys (f ++ ad) := fun j c hj hr => by
    by_cases hk : ∃ i, i ≤ k ∧ Rch nb ok one i c
    · obtain ⟨i, h1, h2⟩ := hk
      have := I.b i c h1 h2
      unfold keys at this ⊢
      rw [List.map_append]; exact List.mem_append_left _ this
    · have hj1 : j = k + 1 := by
        rcases Nat.lt_or_ge k j with q | q
        · omega
        · exact (hk ⟨j, q, hr⟩).elim
      subst hj1
      cases hr with
      | @succ _ x _ h1 h2 h3 =>
        have hx : Dist nb ok one k x := ⟨h1, fun i hi hr => hk ⟨i + 1, by omega, .succ hr h2 h3⟩⟩
        exact all x c ⟨I.r' x hx, h2⟩ h3
  refine ⟨nd, fun c hc => ?_, hb, fun c hc => ?_, fun c hc => ?_, fun c q hc => ?_, fun c hc => ?_, List.mem_append_left _ I.z⟩
  · unfold keys at hc
    rw [List.map_append] at hc
    rcases List.mem_append.mp hc with hc | hc
    · obtain ⟨j, h1, h2⟩ := I.a c hc
      exact ⟨j, by omega, h2⟩
    · obtain ⟨p, h1, rfl⟩ := List.mem_map.mp hc
      exact ⟨k + 1, Nat.le_refl _, (hin p h1).1⟩
  · obtain ⟨p, h1, rfl⟩ := List.mem_map.mp hc
    exact hin p h1
  · have h1 := hb _ c (Nat.le_refl _) hc.1
    unfold keys at h1
    rw [List.map_append] at h1
    rcases List.mem_append.mp h1 with h1 | h1
    · obtain ⟨j, h2, h3⟩ := I.a c h1
      exact (hc.2 j (by omega) h3).elim
    · exact h1
  · rcases List.mem_append.mp hc with hc | hc
    · exact I.p c q hc
    · obtain ⟨h, h1, h2, h3, h4⟩ := e3 _ hc
      cases h2
      exact ⟨k, I.r _ h1, hin _ hc, h3, h4⟩
  · rcases List.mem_append.mp hc with hc | hc
    · exact I.q c hc
    · obtain ⟨h, h1, h2, h3, h4⟩ := e3 _ hc
      cases h2
/-- at the end -/
structure Fin (nb : C → List C) (ok : C → Bool) (one : C) (f : Fd C) : Prop where
  nd : (keys f).Nodup
  iff : ∀ c, c ∈ keys f ↔ ∃ j, Rch nb ok one j c
  p : ∀ c q, (c, some q) ∈ f → ∃ j, Dist nb ok one j q ∧ Dist nb ok one (j + 1) c ∧ c ∈ nb q ∧ ok c = true
  q : ∀ c, (c, none) ∈ f → c = one
  z : (one, none) ∈ f
theorem Inv.fin {one : C} {k : Nat} {f : Fd C} (I : Inv nb ok one k f []) : Fin nb ok one f := by
  have hk : ∀ j c, Rch nb ok one j c → ∃ i, i < k ∧ Rch nb ok one i c := by
    intro j c h
    induction h with
    | zero =>
      rcases Nat.eq_zero_or_pos k with q | q
      · subst q
        have := I.r' one ⟨.zero, fun i hi => by omega⟩
        simp at this
      · exact ⟨0, q, .zero⟩
    | @succ n x y h1 h2 h3 ih =>
      obtain ⟨i, h4, h5⟩ := ih
      rcases Nat.lt_or_ge (i + 1) k with q | q
      · exact ⟨i + 1, q, .succ h5 h2 h3⟩
      · have e : i + 1 = k := by omega
        refine Classical.byContradiction fun hn => ?_
        have := I.r' y ⟨e ▸ .succ h5 h2 h3, fun m hm hr => hn ⟨m, hm, hr⟩⟩
        simp at this
  refine ⟨I.nd, fun c => ⟨fun h => ?_, fun ⟨j, h⟩ => ?_⟩, I.p, I.q, I.z⟩
  · obtain ⟨j, _, h⟩ := I.a c h; exact ⟨j, h⟩
  · obtain ⟨i, h1, h2⟩ := hk j c h
    exact I.b i c (by omega) h2
theorem bL_grow {f : Fd C} (nd : (keys f).Nodup) (row : List C) : (bL nb ok f row).1.length = f.length + (bL nb ok f row).2.length := by
  obtain ⟨ad, e1, e2, _⟩ := (bL_lay (nb := nb) (ok := ok) nd row).ex
  rw [e1, e2]; simp
/-- enough rounds -/
theorem bS_fin {one : C} {cs : List C} (hc : ∀ c, (∃ j, Rch nb ok one j c) → c ∈ cs) : ∀ (n k : Nat) (f : Fd C) (row : List C), Inv nb ok one k f row → (if row = [] then 1 else cs.length - f.length + 2) ≤ n → Fin nb ok one (bS nb ok n f row)
  | 0, k, f, row, I, h => by split at h <;> omega
  | n + 1, k, f, row, I, h => by
    unfold bS
    by_cases e : row = []
    · subst e; rw [if_pos rfl]; exact I.fin
    · rw [if_neg e] at h ⊢
      have I2 := I.step
      refine bS_fin hc n (k + 1) _ _ I2 ?_
      have hg := bL_grow (nb := nb) (ok := ok) I.nd row
      by_cases e2 : (bL nb ok f row).2 = []
      · rw [if_pos e2]; omega
      · rw [if_neg e2]
        have h3 : 0 < (bL nb ok f row).2.length := List.length_pos_iff.mpr e2
        have h4 : (keys (bL nb ok f row).1).length ≤ cs.length := nodup_le I2.nd fun c hc2 => by
          obtain ⟨j, _, hj⟩ := I2.a c hc2
          exact hc c ⟨j, hj⟩
        unfold keys at h4
        rw [List.length_map] at h4
        omega
/-! ### back along the parents -/
theorem Fin.mem_none {one : C} {f : Fd C} (F : Fin nb ok one f) {c : C} {o : Option C} (h : (c, o) ∈ f) : (c = one ∧ o = none) ∨ (c ≠ one ∧ ∃ q, o = some q) := by
  cases o with
  | none => exact .inl ⟨F.q c h, rfl⟩
  | some q =>
    refine .inr ⟨fun e => ?_, q, rfl⟩
    subst e
    obtain ⟨j, _, h2, _⟩ := F.p c q h
    exact h2.2 0 (by omega) .zero
theorem find_mem {f : Fd C} {c : C} (h : c ∈ keys f) : ∃ o, (f.find? fun p => decide (p.1 = c)).map (·.2) = some o ∧ (c, o) ∈ f := by
  unfold keys at h
  obtain ⟨p, hp, rfl⟩ := List.mem_map.mp h
  cases z : f.find? fun q => decide (q.1 = p.1) with
  | none =>
    have := List.find?_eq_none.mp z p hp
    simp at this
  | some q =>
    have h1 := List.find?_some z
    have h2 := List.mem_of_find?_eq_some z
    simp at h1
    exact ⟨q.2, rfl, by rw [← h1]; exact h2⟩
/-- a row of cells, each beside the next -/
def Ch (nb : C → List C) (ok : C → Bool) : List C → Prop
  | [] => True
  | [_] => True
  | a :: b :: l => b ∈ nb a ∧ ok b = true ∧ Ch nb ok (b :: l)
theorem Rch.cons {one a c : C} (h : a ∈ nb one) (ha : ok a = true) {n : Nat} (r : Rch nb ok a n c) : Rch nb ok one (n + 1) c := by
  induction r with
  | zero => exact .succ .zero h ha
  | succ _ h2 h3 ih => exact .succ ih h2 h3
theorem Ch.rch : ∀ {l : List C} {a z : C}, Ch nb ok (a :: l) → (a :: l).getLast (by simp) = z → Rch nb ok a l.length z
  | [], a, z, _, h => by simp at h; subst h; exact .zero
  | b :: l, a, z, ⟨h1, h2, h3⟩, h => by
    have := Ch.rch (z := z) h3 (by simpa using h)
    exact Rch.cons h1 h2 this
def bW (f : Fd C) (one : C) : Nat → List C → List C
  | 0, row => row
  | n + 1, row => match row with
    | [] => []
    | c :: r => if c = one then c :: r else match (f.find? fun p => decide (p.1 = c)).map (·.2) with
      | some (some q) => bW f one n (q :: c :: r)
      | _ => c :: r
theorem bW_spec {one : C} {f : Fd C} (F : Fin nb ok one f) : ∀ (j n : Nat) (c : C) (r : List C), Dist nb ok one j c → j < n → Ch nb ok (c :: r) → ∃ pre, bW f one n (c :: r) = one :: pre ∧ pre.length = j + r.length ∧ Ch nb ok (one :: pre) ∧ (one :: pre).getLast (by simp) = (c :: r).getLast (by simp)
  | 0, 0, c, r, d, h, k => by omega
  | 0, n + 1, c, r, d, h, k => by
    have e := d.1.zero_eq
    subst e
    exact ⟨r, by unfold bW; simp, by simp, k, rfl⟩
  | j + 1, 0, c, r, d, h, k => by omega
  | j + 1, n + 1, c, r, d, h, k => by
    have hne : c ≠ one := fun e => by subst e; exact d.2 0 (by omega) .zero
    obtain ⟨o, e1, e2⟩ := find_mem ((F.iff c).mpr ⟨_, d.1⟩)
    rcases F.mem_none e2 with ⟨q, _⟩ | ⟨_, q, rfl⟩
    · exact (hne q).elim
    obtain ⟨i, h1, h2, h3, h4⟩ := F.p c q e2
    have hi : i = j := by have := h2.uniq d; omega
    subst hi
    obtain ⟨pre, p1, p2, p3, p4⟩ := bW_spec F i n q (c :: r) h1 (by omega) ⟨h3, h4, k⟩
    refine ⟨pre, ?_, by rw [p2]; simp; omega, p3, by rw [p4]; simp⟩
    unfold bW
    simp only [if_neg hne, e1]
    exact p1
end
end Bf

/-! Val23: d.get, sorted(set(cells)), index and count of numbers, a display of two pairs. -/
namespace Vd
open L2 PyProof.Rows PySem PySem.Spec
section
variable {X : Cx} {U : WX}
theorem RB.isD {K : PySem.W.Frag} {mg : Str → Option Value} {F H : Hp} {w : W} {v : V} (h : RB K mg F H w v) (e : Vd.isD w = true) : ∃ a, v = .ref a ∧ L2.IsD H a := by
  cases w with
  | dK kvs => obtain ⟨a, ks, rfl, h1, _⟩ := h; exact ⟨a, rfl, .inl ⟨ks, h1⟩⟩
  | dT kvs => obtain ⟨a, ks, rfl, h1, _⟩ := h; exact ⟨a, rfl, .inr ⟨ks, h1⟩⟩
  | dat _ => cases e
  | kdat _ => cases e
  | fn _ => cases e
  | obj _ _ => cases e
def pDGet (x y z : W) : R W := (dLook x y).bind fun o => match o with
  | some p => .ok (.dat p)
  | none => .ok z
theorem pDGet_nx {x y z : W} {c : Str} : pDGet x y z ≠ .ex c := by
  unfold pDGet
  cases h : dLook x y with
  | no => intro q; cases q
  | ex c' => exact (dLook_nx h).elim
  | ok o => cases o <;> (intro q; cases q)
def fGet2 (f k d : Rho → R W) : Rho → R W := fun ρ => (f ρ).bind fun x => if isD x = true then (k ρ).bind fun y => (d ρ).bind fun z => pDGet x y z else .no
def fGet1 (f k : Rho → R W) : Rho → R W := fun ρ => (f ρ).bind fun x => if isD x = true then (k ρ).bind fun y => pDGet x y (.dat .none) else .no
theorem ve_dget2 {o e g : Expr} {f k d : Rho → R W} {apos cpos : Pos} (hu : X.A.units + 65 < cLine) (ho : VB X U o f) (he : VE X U e k) (hg : VE X U g d)
    (hbase : attributeBase o "get" X.env (eval o X.env) = eval o X.env := by rfl) (hline : (apos.endLine == cpos.line) = true := by rfl)
    (hfew : ((backTo cpos (starEach [e, g] X.env)).all (fun x => !x.1) && (backToKw cpos (keywordEach [] X.env)).all (fun x => x.1.isSome)
    && decide (([e, g] : List Expr).length + ([] : List Keyword).length + (if ([] : List Keyword).isEmpty then 0 else 1) < 30)) = true := by rfl)
    (ht : backTo cpos (starEach [e, g] X.env) = [(false, eval e X.env), (false, eval g X.env)] := by rfl) :
    VE X U (.Call (.Attribute o "get" apos) [e, g] [] cpos) (fGet2 f k d) := by
  refine PE.imp (pe_dget2 (by omega) ho he hg ⟨hbase, hfew, hline, ht⟩) fun σ H Q ⟨B, ρ, F, ek, q⟩ => ?_
  unfold fGet2 at q
  rw [run_bind] at q
  refine ⟨B, ρ, F, ek, run_mono q (fun x _ q xv F1 H1 e1 r1 => ?_) fun _ q => q⟩
  obtain ⟨hD, q⟩ := run_if q
  obtain ⟨a, rfl, hia⟩ := r1.isD hD
  refine ⟨a, rfl, hia, B, ρ, F1, ek.ext e1, ?_⟩
  rw [run_bind] at q
  refine run_mono q (fun y _ q yv F2 H2 e2 r2 => ?_) fun c q C H' h1 h2 => q C H' h1 (e1.hh.trans h2)
  refine ⟨B, ρ, F2, (ek.ext e1).ext e2, ?_⟩
  rw [run_bind] at q
  refine run_mono q (fun z _ q zv F3 H3 e3 r3 => ?_) fun c q C H' h1 h2 => q C H' h1 ((e1.trans e2).hh.trans h2)
  have e123 := (e1.trans e2).trans e3
  have r1' : RB X.K X.mg F3 H3 x (.ref a) := r1.mono ((e2.trans e3).ff) ((e2.trans e3).hh)
  have r2' : RB X.K X.mg F3 H3 y yv := (r2.mono e3.ff).rb e123.sub
  unfold pDGet at q
  cases z0 : dLook x y with
  | no => rw [z0] at q; exact q.elim
  | ex c => exact (dLook_nx z0).elim
  | ok oo =>
    rw [z0] at q
    obtain ⟨a', r, ea, hg1, hn, hs⟩ := dLook_get e123.sub r1' r2' z0
    cases ea
    refine ⟨r, hg1, ?_⟩
    cases oo with
    | none => rw [hn rfl]; exact q _ F3 H3 e123 r3
    | some p =>
      obtain ⟨v, rfl, hv⟩ := hs p rfl
      exact q _ F3 H3 e123 hv
theorem ve_dget1 {o e : Expr} {f k : Rho → R W} {apos cpos : Pos} (hu : X.A.units + 65 < cLine) (ho : VB X U o f) (he : VE X U e k)
    (hbase : attributeBase o "get" X.env (eval o X.env) = eval o X.env := by rfl) (hline : (apos.endLine == cpos.line) = true := by rfl)
    (hfew : ((backTo cpos (starEach [e] X.env)).all (fun x => !x.1) && (backToKw cpos (keywordEach [] X.env)).all (fun x => x.1.isSome)
    && decide (([e] : List Expr).length + ([] : List Keyword).length + (if ([] : List Keyword).isEmpty then 0 else 1) < 30)) = true := by rfl)
    (ht : backTo cpos (starEach [e] X.env) = [(false, eval e X.env)] := by rfl) :
    VE X U (.Call (.Attribute o "get" apos) [e] [] cpos) (fGet1 f k) := by
  refine PE.imp (pe_dget1 (by omega) ho he ⟨hbase, hfew, hline, ht⟩) fun σ H Q ⟨B, ρ, F, ek, q⟩ => ?_
  unfold fGet1 at q
  rw [run_bind] at q
  refine ⟨B, ρ, F, ek, run_mono q (fun x _ q xv F1 H1 e1 r1 => ?_) fun _ q => q⟩
  obtain ⟨hD, q⟩ := run_if q
  obtain ⟨a, rfl, hia⟩ := r1.isD hD
  refine ⟨a, rfl, hia, B, ρ, F1, ek.ext e1, ?_⟩
  rw [run_bind] at q
  refine run_mono q (fun y _ q yv F2 H2 e2 r2 => ?_) fun c q C H' h1 h2 => q C H' h1 (e1.hh.trans h2)
  have e12 := e1.trans e2
  have r1' : RB X.K X.mg F2 H2 x (.ref a) := r1.mono e2.ff e2.hh
  have r2' : RB X.K X.mg F2 H2 y yv := r2.rb e12.sub
  unfold pDGet at q
  cases z0 : dLook x y with
  | no => rw [z0] at q; exact q.elim
  | ex c => exact (dLook_nx z0).elim
  | ok oo =>
    rw [z0] at q
    obtain ⟨a', r, ea, hg1, hn, hs⟩ := dLook_get e12.sub r1' r2' z0
    cases ea
    refine ⟨r, hg1, ?_⟩
    cases oo with
    | none => rw [hn rfl]; exact q _ F2 H2 e12 rfl
    | some p =>
      obtain ⟨v, rfl, hv⟩ := hs p rfl
      exact q _ F2 H2 e12 hv
/-! ### sorted(set(cells)) -/
def asC2s : List Pd → Option (List C2)
  | [] => some []
  | .tuple [.int a, .int b] :: r => (asC2s r).map ((a, b) :: ·)
  | _ :: _ => none
theorem asC2s_map : ∀ l : List C2, asC2s (l.map pC) = some l
  | [] => rfl
  | a :: l => by simp only [List.map_cons, pC, asC2s]; show ((asC2s (l.map pC)).map _) = _; rw [asC2s_map l]; rfl
theorem asC2s_inv : ∀ {ds : List Pd} {l : List C2}, asC2s ds = some l → ds = l.map pC
  | [], l, h => by cases h; rfl
  | .tuple [.int a, .int b] :: r, l, h => by
    unfold asC2s at h
    cases z : asC2s r with
    | none => rw [z] at h; cases h
    | some m => rw [z] at h; cases h; rw [asC2s_inv z]; rfl
  | .tuple [] :: _, _, h => by cases h
  | .tuple [_] :: _, _, h => by simp [asC2s] at h
  | .tuple (_ :: _ :: _ :: _) :: _, _, h => by simp [asC2s] at h
  | .tuple [.int _, .none] :: _, _, h => by cases h
  | .tuple [.int _, .bool _] :: _, _, h => by cases h
  | .tuple [.int _, .str _] :: _, _, h => by cases h
  | .tuple [.int _, .list _] :: _, _, h => by cases h
  | .tuple [.int _, .tuple _] :: _, _, h => by cases h
  | .tuple [.int _, .dict _] :: _, _, h => by cases h
  | .tuple [.none, _] :: _, _, h => by simp [asC2s] at h
  | .tuple [.bool _, _] :: _, _, h => by simp [asC2s] at h
  | .tuple [.str _, _] :: _, _, h => by simp [asC2s] at h
  | .tuple [.list _, _] :: _, _, h => by simp [asC2s] at h
  | .tuple [.tuple _, _] :: _, _, h => by simp [asC2s] at h
  | .tuple [.dict _, _] :: _, _, h => by simp [asC2s] at h
  | .none :: _, _, h => by cases h
  | .bool _ :: _, _, h => by cases h
  | .int _ :: _, _, h => by cases h
  | .str _ :: _, _, h => by cases h
  | .list _ :: _, _, h => by cases h
  | .dict _ :: _, _, h => by cases h
def srtK (l : List C2) : List C2 := (ddup l).mergeSort leC
def small (c : C2) : Prop := (0 ≤ c.1 ∧ c.1 < 64) ∧ (0 ≤ c.2 ∧ c.2 < 64)
noncomputable instance (c : C2) : Decidable (small c) := Classical.propDecidable _
noncomputable def pSrtSet : W → R W
  | .dat (.list ds) => match asC2s ds with
    | some l => if l.length < 64 ∧ ∀ c ∈ l, small c then .ok (.dat (.list ((srtK l).map pC))) else .no
    | none => .no
  | _ => .no
theorem srt_of (l : List C2) (hs : ∀ c ∈ l, small c) (L : List (List Int)) (nd : L.Nodup) (h1 : ∀ x, x ∈ L ↔ x ∈ l.map fun c => [c.1, c.2]) (pw : L.Pairwise fun q r => TS.code 64 q ≤ TS.code 64 r) : L = (srtK l).map fun c => [c.1, c.2] := by
  let m : List C2 := L.map fun q => (q.getD 0 0, q.getD 1 0)
  have hL : ∀ x ∈ L, ∃ c ∈ l, x = [c.1, c.2] := fun x hx => by
    obtain ⟨c, hc, e⟩ := List.mem_map.mp ((h1 x).mp hx)
    exact ⟨c, hc, e.symm⟩
  have hm : L = m.map fun c => [c.1, c.2] := by
    show L = (L.map _).map _
    rw [List.map_map]
    conv => lhs; rw [← List.map_id L]
    apply List.map_congr_left
    intro x hx
    obtain ⟨c, _, rfl⟩ := hL x hx
    rfl
  have inj : ∀ c d : C2, ([c.1, c.2] : List Int) = [d.1, d.2] → c = d := fun c d e => by
    simp at e; exact Prod.ext e.1 e.2
  have hnd : m.Nodup := by
    rw [hm] at nd
    exact List.Pairwise.of_map (fun c : C2 => [c.1, c.2]) (fun c d h e => h (by rw [e])) nd
  have hmem : ∀ c, c ∈ m ↔ c ∈ ddup l := fun c => by
    rw [ddup_mem]
    have := h1 [c.1, c.2]
    rw [hm, List.mem_map, List.mem_map] at this
    constructor
    · intro h
      obtain ⟨d, hd, e⟩ := this.mp ⟨c, h, rfl⟩
      exact inj _ _ e ▸ hd
    · intro h
      obtain ⟨d, hd, e⟩ := this.mpr ⟨c, h, rfl⟩
      exact inj _ _ e ▸ hd
  have hle : m.Pairwise fun a b => leC a b = true := by
    rw [hm, List.pairwise_map] at pw
    refine (List.Pairwise.and_mem.mp (pw.and hnd)).imp fun {a b} h => ?_
    obtain ⟨ha, hb, h2, hne⟩ := h
    have sa := hs a (ddup_mem.mp ((hmem a).mp ha))
    have sb := hs b (ddup_mem.mp ((hmem b).mp hb))
    have := pair_lt h2 (fun e => hne (inj _ _ e)) sa.1 sa.2 sb.1 sb.2
    unfold leC
    simp only [decide_eq_true_eq]
    omega
  rw [hm]
  congr 1
  refine sorted_eq hle (mergeC_sorted _) (((List.perm_ext_iff_of_nodup hnd (ddup_nodup l)).mpr hmem).trans (List.mergeSort_perm _ _).symm)
theorem ve_srtset {e : Expr} {f : Rho → R W} {p p2 pos pos2 : Pos} (hc : X.calm = true) (hu : X.A.units + 65 < cLine) (hm : X.mg "sorted" = none) (hm2 : X.mg "set" = none) (he : VE X U e f) (hg : Gl X "sorted" := by rfl) (hg2 : Gl X "set" := by rfl)
    (hs : starEach [e] X.env = (false, eval e X.env) :: starEach [] X.env := by rfl) (hpl : (backTo pos2 (starEach [] X.env)).any (·.1) = false := by rfl)
    (hs2 : starEach [.Call (.Name "set" p2) [e] [] pos2] X.env = (false, eval (.Call (.Name "set" p2) [e] [] pos2) X.env) :: starEach [] X.env := by rfl) (hpl2 : (backTo pos (starEach [] X.env)).any (·.1) = false := by rfl) :
    VE X U (.Call (.Name "sorted" p) [.Call (.Name "set" p2) [e] [] pos2] [] pos) (f1 pSrtSet f) := by
  refine PE.imp (pe_callB (cr_sortedT hc) hg hm (by decide +kernel) (pa_cons (pe_callTy (cr_setOfT hc (by omega)) hg2 hm2 PyProof.Rows.boot_set (pa_cons he pa_nil hs) (by decide) (by decide) hs hpl) pa_nil hs2) (by decide) (by decide) hs2 hpl2) fun σ H Q ⟨B, ρ, F, k, q⟩ => ?_
  unfold f1 at q
  rw [run_bind] at q
  refine ⟨B, ρ, F, k, run_mono q (fun w _ q v F1 H1 e1 r1 => ?_) fun _ q => q⟩
  unfold pSrtSet at q
  split at q
  · rename_i ds
    split at q
    · rename_i l hl0
      obtain ⟨⟨hl, hsm⟩, q⟩ := run_if q
      obtain ⟨la, xs, rfl, h1, h2⟩ := r1
      have hds := asC2s_inv hl0
      subst hds
      obtain ⟨ps, rfl, p2', p3⟩ := asTups_rep h2 (asTups_C l)
      have hlen : ps.length < 64 := by
        have := congrArg List.length p2'
        simp only [List.length_map] at this
        omega
      refine ⟨la, ps, rfl, .of (e1.sub _ _ h1), fun p hp => .of (e1.sub _ _ (p3 p hp)), hlen, fun a L ha hL1 hL2 => ?_⟩
      have hform : ∀ p ∈ ps, ∃ c ∈ l, p.2 = [c.1, c.2] := fun p hp => by
        have : p.2 ∈ ps.map (·.2) := List.mem_map_of_mem hp
        rw [p2'] at this
        obtain ⟨c, hc, e⟩ := List.mem_map.mp this
        exact ⟨c, hc, e.symm⟩
      refine ⟨a, L, 2, 64, rfl, upd_same, fun p hp => ?_, by decide, fun p hp => ?_, fun L' p pm nd hlt pw hp => ?_⟩
      · have hp2 := e1.sub _ _ (p3 p (hL1 p hp))
        have hne : p.1 ≠ a := fun e => by rw [e, ha] at hp2; cases hp2
        exact .of (by rw [upd_ne hne]; exact hp2)
      · obtain ⟨c, hc, e⟩ := hform p (hL1 p hp)
        have sc := hsm c hc
        rw [e]
        refine ⟨rfl, fun m hm => ?_⟩
        simp at hm
        rcases hm with rfl | rfl
        · exact sc.1
        · exact sc.2
      · have hmem : ∀ x, x ∈ L'.map (·.2) ↔ x ∈ l.map fun c => [c.1, c.2] := fun x => by
          rw [← p2']
          constructor
          · intro h
            obtain ⟨p, hp, rfl⟩ := List.mem_map.mp h
            exact List.mem_map_of_mem (hL1 p (pm.mem_iff.mp hp))
          · intro h
            obtain ⟨p, hp, rfl⟩ := List.mem_map.mp h
            obtain ⟨q, hq, e⟩ := List.mem_map.mp (hL2 p hp)
            exact List.mem_map.mpr ⟨q, pm.mem_iff.mpr hq, e⟩
        have hL := srt_of l hsm (L'.map (·.2)) nd hmem (by rw [List.pairwise_map]; exact pw)
        have ea : Ext F H F1 (upd H1 a (SetTO X.prog X.w a L)) := e1.trans (.newO e1.sub ha)
        have en := ea.trans (.new ea.sub hp (o := .lst (L'.map fun q => V.ref q.1)))
        refine q _ _ _ en ⟨p, _, rfl, upd_same, ?_⟩
        have hpF : F1 p = none := ea.sub.nn hp
        have hreps : ∀ (L' : List (Addr × List Int)) (m : List C2), L'.map (·.2) = m.map (fun c => [c.1, c.2]) → (∀ q ∈ L', F1 q.1 = some (.tup (q.2.map V.int))) → DsL F1 (m.map pC) (L'.map fun q => V.ref q.1) := by
          intro L'
          induction L' with
          | nil => intro m e _; cases m with
            | nil => rfl
            | cons _ _ => cases e
          | cons q r ih =>
            intro m e h
            cases m with
            | nil => cases e
            | cons c m =>
              rw [List.map_cons, List.map_cons] at e
              injection e with e3 e4
              refine ⟨.ref q.1, r.map (fun q => V.ref q.1), rfl, ?_, ih m e4 fun x hx => h x (List.mem_cons_of_mem _ hx)⟩
              have := h q List.mem_cons_self
              rw [e3] at this
              exact ⟨q.1, _, rfl, this, .int c.1, [.int c.2], rfl, rfl, .int c.2, [], rfl, rfl, rfl⟩
        exact DsL.mono (.upd hpF) _ _ (hreps L' (srtK l) hL fun q hq => p3 q (hL1 q (pm.mem_iff.mp hq)))
    · exact q.elim
  · exact q.elim
theorem pSrtSet_Cs (l : List C2) (h : l.length < 64) (hs : ∀ c ∈ l, small c) : pSrtSet (wCs l) = .ok (wCs (srtK l)) := by
  show (match asC2s (l.map pC) with | some l => if l.length < 64 ∧ ∀ c ∈ l, small c then R.ok (W.dat (.list ((srtK l).map pC))) else .no | none => .no) = _
  rw [asC2s_map]
  simp only []
  rw [if_pos ⟨h, hs⟩]; rfl
end
end Vd

/-! Val24: rows of rows of one's own. -/
namespace Vd
open L2 PyProof.Rows PySem PySem.Spec
def sgs (z : Str) : List Pd := z.cps.toList.map fun c => .str (S [c])
def nListOf (f : Rho → R W) : Rho → R OT := fun ρ => (f ρ).bind fun w => match w with
  | .dat (.list ds) => .ok (.L ds)
  | .dat (.tuple ds) => .ok (.L ds)
  | .dat (.str z) => if z.length ≤ sizeLine then .ok (.L (sgs z)) else .no
  | _ => .no
def lcSL (vs : List Nat) (t : W → Rho → R Rho) (c : Rho → R Bool) (f : Rho → R OT) : List W → Rho → R (List (List Pd))
  | [], _ => .ok []
  | w :: ws, ρ => (noEx (t w (killAt vs ρ))).bind fun ρ1 => (noEx (c ρ1)).bind fun b => if b = true then (noEx (f ρ1)).bind fun y => match y with
      | .L d => (lcSL vs t c f ws ρ).bind fun ds => .ok (d :: ds)
      | _ => .no
    else lcSL vs t c f ws ρ
noncomputable def nLcL (i : Rho → R (List W)) (vs : List Nat) (t : W → Rho → R Rho) (c : Rho → R Bool) (f : Rho → R OT) : Rho → R OT := fun ρ => (i ρ).bind fun ws => (noEx (lcSL vs t c f ws ρ)).bind fun ds => if fits ds.length then .ok (.LL ds) else .no
theorem LLR.len {F H : Hp} : ∀ {dss : List (List Pd)} {bs : List Addr}, LLR F H dss bs → bs.length = dss.length
  | [], _, h => by cases h; rfl
  | _ :: _, _, ⟨b, r, xs, e, _, _, h⟩ => by subst e; simp [LLR.len h]
theorem LLR.app1 {F H : Hp} {ds : List Pd} {a : Addr} {xs : List V} (ha : H a = some (.lst xs)) (hd : DsL F ds xs) : ∀ {dss : List (List Pd)} {bs : List Addr}, LLR F H dss bs → LLR F H (dss ++ [ds]) (bs ++ [a])
  | [], _, h => by cases h; exact ⟨a, [], xs, rfl, ha, hd, rfl⟩
  | _ :: _, _, ⟨b, r, ys, e, h1, h2, h⟩ => by subst e; exact ⟨b, r ++ [a], ys, rfl, h1, h2, LLR.app1 ha hd h⟩
theorem LLR.mem {F H : Hp} : ∀ {dss : List (List Pd)} {bs : List Addr}, LLR F H dss bs → ∀ b ∈ bs, ∃ xs, H b = some (.lst xs)
  | [], _, h => by cases h; simp
  | _ :: _, _, ⟨b, r, ys, e, h1, h2, h⟩ => by
    subst e
    intro c hc
    rcases List.mem_cons.mp hc with rfl | hc
    · exact ⟨ys, h1⟩
    · exact LLR.mem h c hc
theorem LLR.get {F H : Hp} : ∀ {dss : List (List Pd)} {bs : List Addr} {n : Nat} {ds : List Pd}, LLR F H dss bs → dss[n]? = some ds → ∃ b xs, bs[n]? = some b ∧ H b = some (.lst xs) ∧ DsL F ds xs
  | [], _, _, _, _, e => by simp at e
  | d :: dss, _, 0, ds, ⟨b, r, ys, e, h1, h2, h⟩, q => by subst e; simp at q; subst q; exact ⟨b, ys, rfl, h1, h2⟩
  | d :: dss, _, n + 1, ds, ⟨b, r, ys, e, h1, h2, h⟩, q => by subst e; simp at q; simpa using LLR.get h q
theorem LLR.put {F H : Hp} {c : Addr} {zs : List V} {ds' : List Pd} (hd : DsL F ds' zs) : ∀ {dss : List (List Pd)} {bs : List Addr} {n : Nat}, LLR F H dss bs → bs.Nodup → bs[n]? = some c → LLR F (L2.upd H c (.lst zs)) (dss.set n ds') bs
  | [], _, _, h, _, e => by cases h; simp at e
  | d :: dss, _, 0, ⟨b, r, ys, e, h1, h2, h⟩, nd, q => by
    subst e; simp at q; subst q
    rw [List.nodup_cons] at nd
    exact ⟨b, r, zs, rfl, upd_same, hd, h.upd nd.1⟩
  | d :: dss, _, n + 1, ⟨b, r, ys, e, h1, h2, h⟩, nd, q => by
    subst e
    rw [List.nodup_cons] at nd
    have q : r[n]? = some c := by simpa using q
    have hne : b ≠ c := fun e => nd.1 (e ▸ List.mem_of_getElem? q)
    exact ⟨b, r, ys, rfl, by rw [upd_ne hne]; exact h1, h2, LLR.put hd h nd.2 q⟩
section
variable {X : Cx} {U : WX}
theorem call_list_sgn (hc : X.calm = true) : CallR X (.type "list") (fun xs H Q => ∃ z : Str, xs = [.str z] ∧ z.length ≤ sizeLine ∧ ∀ l, H l = none → Q (.ref l) (upd H l (.lst (z.cps.toList.map fun c => V.str (S [c]))))) := by
  intro pins s σ H xs us Q I r h
  obtain ⟨z, rfl, hz, q⟩ := h
  obtain ⟨u, rfl, rx⟩ := vals1 r
  obtain ⟨t, rfl⟩ := rx
  refine call_list_str (I.ok.hd hc) z t (fun h' tk acc' c' kp e hi => ?_) hz
  have hv : Vals (z.cps.toList.map fun c => V.str (S [c])) acc'.toList := by
    refine vals_each (by rw [List.length_map, Array.length_toList, Array.length_toList]; exact hi.1) fun j v hj => ?_
    have hj' : acc'[j]? = some v := by simpa using hj
    obtain ⟨c, u, h1, rfl⟩ := hi.2 j v hj'
    refine ⟨.str (S [c]), ?_, u, rfl⟩
    rw [List.getElem?_map, Array.getElem?_toList, h1]; rfl
  exact ⟨.ref s.heap.objs.size, _, I.laid (t' := tk) kp (Nat.le_refl _) (show ObjOk X.prog X.w _ h' _ (.lst _) from ⟨by rw [List.length_map, Array.length_toList]; exact hz, acc'.toList, c', hv, by simpa using e⟩), rfl, q _ (I.hok.fresh (Nat.le_refl _))⟩
theorem dsL_sgs {F : Hp} : ∀ l : List Nat, DsL F (l.map fun c => .str (S [c])) (l.map fun c => V.str (S [c]))
  | [] => rfl
  | c :: l => ⟨.str (S [c]), l.map fun c => V.str (S [c]), rfl, rfl, dsL_sgs l⟩
theorem vn_listOf {e : Expr} {p pos : Pos} {f : Rho → R W} (hc : X.calm = true) (hm : X.mg "list" = none) (he : VB X U e f) (hg : Gl X "list" := by rfl)
    (hs : starEach [e] X.env = (false, eval e X.env) :: starEach [] X.env := by rfl) (hpl : (backTo pos (starEach [] X.env)).any (·.1) = false := by rfl) : VN X U (.Call (.Name "list" p) [e] [] pos) (nListOf f) := by
  refine PE.imp (pe_callTy (CallR.or call_list_of (call_list_sgn hc)) hg hm PyProof.Rows.boot_list (pa_cons he pa_nil hs) (by decide) (by decide) hs hpl) fun σ H Q ⟨B, ρ, F, k, q⟩ => ?_
  unfold nListOf at q
  rw [run_bind] at q
  refine ⟨B, ρ, F, k, run_mono q (fun w _ q v F1 H1 e1 r1 => ?_) fun _ q => q⟩
  split at q
  · obtain ⟨a, xs, rfl, h1, h2⟩ := r1
    refine .inl ⟨a, xs, rfl, .inl (.of h1), fun l hl => ?_⟩
    refine q l [l] F1 _ (e1.trans (.newO e1.sub hl)) ⟨rfl, xs, upd_same, h2⟩ fun b hb => ?_
    rw [List.mem_singleton.mp hb]
    exact ⟨e1.hh.nn hl, e1.sub.nn hl, ⟨_, upd_same, fun _ h => nomatch h⟩⟩
  · obtain ⟨a, xs, rfl, h1, h2⟩ := r1
    refine .inl ⟨a, xs, rfl, .inr (.of (e1.sub _ _ h1)), fun l hl => ?_⟩
    refine q l [l] F1 _ (e1.trans (.newO e1.sub hl)) ⟨rfl, xs, upd_same, h2⟩ fun b hb => ?_
    rw [List.mem_singleton.mp hb]
    exact ⟨e1.hh.nn hl, e1.sub.nn hl, ⟨_, upd_same, fun _ h => nomatch h⟩⟩
  · obtain ⟨hl0, q⟩ := run_if q
    cases r1
    refine .inr ⟨_, rfl, hl0, fun l hl => ?_⟩
    refine q l [l] F1 _ (e1.trans (.newO e1.sub hl)) ⟨rfl, _, upd_same, dsL_sgs _⟩ fun b hb => ?_
    rw [List.mem_singleton.mp hb]
    exact ⟨e1.hh.nn hl, e1.sub.nn hl, ⟨_, upd_same, fun _ h => nomatch h⟩⟩
  · exact q.elim
theorem lc_readL {g : TG} {tt : TT} {te : TE} {i : Rho → R (List W)} {vs sl : List Nat} {t : W → Rho → R Rho} {c : Rho → R Bool} {f : Rho → R OT} {σ : L2.St} {H : Hp} {Q : VK} (hsl : ∀ j ∈ sl, j ∈ vs)
    (hg : ∀ v σ H (Q : L2.St → Hp → Prop), (∃ B ρ F w, EnvOk X.K X.mg B ρ F σ H ∧ RpW X.K X.mg F w v ∧ run (t w ρ) (fun ρ' => ∀ σ', EnvOk X.K X.mg B ρ' F σ' H → (∀ j, j ∉ sl → σ'[j]? = σ[j]?) → σ'.length = σ.length → Q σ' H) (fun _ => False)) → g v σ H Q)
    (ht : ∀ σ H Q, tT X NoU c σ H Q → tt σ H Q) (he : ∀ σ H Q, tN X NoU f σ H Q → te σ H Q)
    (q : tN X U (nLcL i vs t c f) σ H Q) : tLc (fun σ H R => ∃ B ρ F, EnvOk X.K X.mg B ρ F σ H ∧
      run (i ρ) (fun ws => ∀ J F' H', Ext F H F' H' → Wk X J ws F' → R J H') (fun c => ∀ C H', X.mg c = some (.ref C) → Sub H H' → U (.ref C) none σ H')) g tt te vs σ H Q := by
  obtain ⟨B, ρ, F, k, q⟩ := q
  unfold nLcL at q
  rw [run_bind] at q
  refine ⟨B, ρ, F, k, run_mono q (fun ws _ q J F1 H1 e1 wk D hD => ?_) fun _ q => q⟩
  obtain ⟨dsAll, zAll, q⟩ := noEx_run q
  obtain ⟨hfit, q⟩ := run_if q
  have k1 := k.ext e1
  -- the invariant
  refine ⟨fun i m H => m = ws.length - i ∧ i ≤ ws.length ∧ ∃ Hm Fi bs dacc dr, H = upd Hm D (.lst (bs.map V.ref)) ∧ Hm D = none ∧ Ext F1 H1 Fi Hm ∧ LLR Fi Hm dacc bs ∧ bs.Nodup ∧ (∀ b ∈ bs, H1 b = none ∧ Fi b = none) ∧ lcSL vs t c f (ws.drop i) ρ = .ok dr ∧ dacc ++ dr = dsAll,
    ⟨ws.length, by omega, Nat.zero_le _, H1, F1, [], [], dsAll, rfl, hD, .refl e1.sub, rfl, List.nodup_nil, fun b hb => by simp at hb, by simpa using zAll, rfl⟩, fun i m H hW => ?_⟩
  obtain ⟨rfl, hle, Hm, Fi, bs, dacc, dr, rfl, hmD, em, rep, nd, own, z, eq⟩ := hW
  have kx : Ext Fi Hm Fi (upd Hm D (.lst (bs.map V.ref))) := .newO em.sub hmD
  have kH : EnvOk X.K X.mg B ρ Fi σ (upd Hm D (.lst (bs.map V.ref))) := (k1.ext em).ext kx
  obtain ⟨w1, w2⟩ := wk i (upd Hm D (.lst (bs.map V.ref))) (em.ff.trans kx.sub)
  -- what is one's own stays so
  have keep : ∀ F' H', Ext Fi (upd Hm D (.lst (bs.map V.ref))) F' H' → ∀ b ∈ bs, H1 b = none ∧ F' b = none := fun F' H' e b hb => by
    obtain ⟨o1, o2⟩ := own b hb
    refine ⟨o1, ?_⟩
    cases z : F' b with
    | none => rfl
    | some u =>
      obtain ⟨xs, hx⟩ := rep.mem b hb
      have hx' : (upd Hm D (.lst (bs.map V.ref))) b = some (.lst xs) := kx.hh _ _ hx
      have ow : Ow (upd Hm D (.lst (bs.map V.ref))) b := ⟨_, hx', fun _ h => nomatch h⟩
      rcases e.nw b (by rw [z]; exact fun h => nomatch h) with y | y
      · exact (y o2).elim
      · exact (ow.not y).elim
  by_cases hlt : i < ws.length
  · obtain ⟨go, yl⟩ := w1 ws[i] (by simp [hlt])
    refine .inr ⟨go, fun H' => ∃ Hm Fi bs dacc dr, H' = upd Hm D (.lst (bs.map V.ref)) ∧ Hm D = none ∧ Ext F1 H1 Fi Hm ∧ LLR Fi Hm dacc bs ∧ bs.Nodup ∧ (∀ b ∈ bs, H1 b = none ∧ Fi b = none) ∧ lcSL vs t c f (ws.drop (i + 1)) ρ = .ok dr ∧ dacc ++ dr = dsAll,
      fun H' h => ⟨ws.length - (i + 1), by omega, rfl, hlt, h⟩, fun x H' hy => ?_⟩
    obtain ⟨F2, e2, r2⟩ := yl x H' Fi em.ff kx.sub hy
    rw [List.drop_eq_getElem_cons hlt] at z
    unfold lcSL at z
    have k2 := (kH.ext e2).wipe vs
    refine hg x _ H' _ ⟨B, killAt vs ρ, F2, ws[i], k2, r2, ?_⟩
    cases z1 : t ws[i] (killAt vs ρ) with
    | no => rw [z1] at z; cases z
    | ex _ => rw [z1] at z; cases z
    | ok ρ1 =>
      rw [z1] at z
      intro σ' k3 n3 l3
      refine ⟨?_, ht _ _ _ ?_⟩
      · exact wipe_eq (fun j hj => n3 j fun q => hj (hsl j q)) l3 |>.trans wipe_wipe
      have z : (noEx (c ρ1)).bind _ = R.ok dr := z
      cases z2 : c ρ1 with
      | no => rw [z2] at z; cases z
      | ex _ => rw [z2] at z; cases z
      | ok b =>
        rw [z2] at z
        refine ⟨B, ρ1, F2, k3, ?_⟩
        rw [z2]
        intro F3 H3 e3
        have z : (if b = true then _ else _) = R.ok dr := z
        have e23 := e2.trans e3
        have lst : ∀ (o : HO), (fun xs => True) ([] : List V) → True := fun _ _ => trivial
        cases b with
        | false =>
          rw [if_neg (by decide)] at z
          have en := Ext.minus (o := .lst (bs.map V.ref)) em.sub hmD (fun _ h => nomatch h) e23
          refine iteF ⟨Vd.minus H3 D, F3, bs, dacc, dr, ?_, minus_self, em.trans en, rep.mono en.ff en.hh, nd, keep _ _ e23, z, eq⟩
          rw [upd_minus, upd_self (e23.hh _ _ upd_same)]
        | true =>
          rw [if_pos rfl] at z
          refine iteT (he _ _ _ ⟨B, ρ1, F3, k3.ext e3, ?_⟩)
          cases z3 : f ρ1 with
          | no => rw [z3] at z; cases z
          | ex _ => rw [z3] at z; cases z
          | ok y =>
            rw [z3] at z
            intro a fp F4 H4 e4 r4 hn4
            cases y with
            | L d =>
              have z : (lcSL vs t c f (ws.drop (i + 1)) ρ).bind _ = R.ok dr := z
              cases z4 : lcSL vs t c f (ws.drop (i + 1)) ρ with
              | no => rw [z4] at z; cases z
              | ex _ => rw [z4] at z; cases z
              | ok dr' =>
                rw [z4] at z; cases z
                have e24 := e23.trans e4
                have hacc : H4 D = some (.lst (bs.map V.ref)) := e24.hh _ _ upd_same
                obtain ⟨rfl, xs, hax, hdx⟩ := r4
                obtain ⟨na1, na2, na3⟩ := hn4 a (by simp)
                have hH3 : ∀ b ∈ bs, ∃ u, H3 b = some u := fun b hb => by
                  obtain ⟨xs, hx⟩ := rep.mem b hb
                  exact ⟨_, e23.hh _ _ (kx.hh _ _ hx)⟩
                have hab : a ∉ bs := fun h => by
                  obtain ⟨u, hu⟩ := hH3 a h
                  rw [na1] at hu; cases hu
                have haD : a ≠ D := fun e => by
                  have := e23.hh _ _ (upd_same (H := Hm) (a := D) (o := .lst (bs.map V.ref)))
                  rw [← e, na1] at this; cases this
                have en := Ext.minus (o := .lst (bs.map V.ref)) em.sub hmD (fun _ h => nomatch h) e24
                have hH1a : H1 a = none := by
                  cases w : H1 a with
                  | none => rfl
                  | some u =>
                    have := e23.hh _ _ (kx.hh _ _ (em.hh _ _ w))
                    rw [na1] at this; cases this
                refine ⟨bs.map V.ref, hacc, ?_, Vd.minus H4 D, F4, bs ++ [a], dacc ++ [d], dr', by rw [upd_minus, List.map_append]; rfl, minus_self, em.trans en, LLR.app1 (by rw [minus_ne haD]; exact hax) hdx (rep.mono en.ff en.hh), ?_, fun b hb => ?_, rfl, by simpa using eq⟩
                · have h1 : bs.length = dacc.length := rep.len
                  have h2 : dsAll.length ≤ sizeLine := hfit
                  rw [← eq, List.length_append, List.length_cons] at h2
                  rw [List.length_map]
                  omega
                · rw [List.nodup_append]
                  exact ⟨nd, by simp, fun x hx y hy e => by simp at hy; subst hy; exact hab (e ▸ hx)⟩
                · rcases List.mem_append.mp hb with hb | hb
                  · exact keep _ _ e24 b hb
                  · simp at hb; subst hb; exact ⟨hH1a, na2⟩
            | dK _ => cases z
            | dT _ => cases z
            | LL _ => cases z
  · have e : i = ws.length := by omega
    subst e
    refine .inl ⟨w2 (Nat.le_refl _), ?_⟩
    rw [List.drop_length] at z
    cases z
    rw [List.append_nil] at eq
    subst eq
    have hDb : D ∉ bs := fun h => by
      obtain ⟨xs, hx⟩ := rep.mem D h
      rw [hmD] at hx; cases hx
    refine q D (D :: bs) Fi _ ((e1.trans em).trans kx) ⟨bs, rfl, List.nodup_cons.mpr ⟨hDb, nd⟩, upd_same, rep.mono (.refl _) kx.hh⟩ fun b hb => ?_
    rcases List.mem_cons.mp hb with rfl | hb
    · exact ⟨(e1.trans em).hh.nn hmD, em.sub.nn hmD, ⟨_, upd_same, fun _ h => nomatch h⟩⟩
    · obtain ⟨o1, o2⟩ := own b hb
      obtain ⟨xs, hx⟩ := rep.mem b hb
      exact ⟨e1.hh.nn o1, o2, ⟨_, kx.hh _ _ hx, fun _ h => nomatch h⟩⟩
theorem vs_setLcL (j : Nat) {y : Str} {py : Pos} {elt tg iter : Expr} {ifs : List Expr} {scope : Scope} {own : List (Str × Nat)} {pos spos : Pos} {i : Rho → R (List W)} {sl : List Nat} {t : W → Rho → R Rho} {c : Rho → R Bool} {f : Rho → R OT}
    (hc : X.calm = true) (hN : X.N.Nodup) (hi : VI X U tg iter i) (ok : BlkOk X.N X.env.scope scope own) (hsl : ∀ j ∈ sl, j ∈ own.map (·.2))
    (hg : ∀ (s : Shared) (H : Hp) (C : Addr) (cl : List (Str × Addr)) (fp : List Addr), VG (X.blk s H scope (compEnvC scope cl C X.env) fp) tg sl t)
    (ht : ∀ (s : Shared) (H : Hp) (C : Addr) (cl : List (Str × Addr)) (fp : List Addr), VC (X.blk s H scope (compEnvC scope cl C X.env) fp) ifs c)
    (he : ∀ (s : Shared) (H : Hp) (C : Addr) (cl : List (Str × Addr)) (fp : List Addr), VN (X.blk s H scope (compEnvC scope cl C X.env) fp) NoU elt f)
    (hy : X.N[j]? = some y := by rfl) (hyl : X.env.scope.names.lookup y = some .local := by rfl) (hsw : swapsWith (.ListComp elt [⟨tg, iter, ifs, 0⟩] scope pos) (some (.Name y py)) spos.line X.env = pure true := by exact sw_true rfl rfl rfl (by decide +kernel))
    (hs : ∀ x, foldedSetIterable iter X.env x = pure x := by intro _; rfl) :
    VS X U (.Assign [.Name y py] (.ListComp elt [⟨tg, iter, ifs, 0⟩] scope pos) spos) (gOwn j (nLcL i (own.map (·.2)) t c f)) :=
  PS.imp (ps_setLc (g := tG X sl t) (tt := tT X NoU c) (te := tN X NoU f) hc hN hy hyl hsw hi ok hg ht he hs) fun D σ H ⟨B, ρ, F, k, q⟩ => by
    refine lc_readL (X := X) (U := U) hsl (fun v σ H Q h => h) (fun σ H Q h => h) (fun σ H Q h => h) ⟨B, ρ, F, k, ?_⟩
    unfold gOwn at q
    rw [run_bind] at q
    refine run_mono q (fun w _ q a fp F' H' e r hn => ?_) fun c q => ex_of k q
    obtain ⟨hl, q⟩ := setO_run q
    exact q F' _ H' (k.setO e hl r hn)
end
end Vd

/-! Val25: stores into rows of rows. -/
namespace Vd
open L2 PyProof.Rows PySem PySem.Spec
def asN : W → R Int
  | .dat (.int n) => .ok n
  | _ => .no
theorem asN_run {w : W} {α : Type} {k : Int → R α} {ok : α → Prop} {ex : Str → Prop} (h : run ((asN w).bind k) ok ex) : ∃ d, w = .dat (.int d) ∧ run (k d) ok ex := by
  unfold asN at h
  split at h
  · exact ⟨_, rfl, h⟩
  · exact h.elim
def opR {α : Type} : Option α → R α
  | some a => .ok a
  | none => .no
theorem opR_run {α β : Type} {o : Option α} {k : α → R β} {ok : β → Prop} {ex : Str → Prop} (h : run ((opR o).bind k) ok ex) : ∃ a, o = some a ∧ run (k a) ok ex := by
  cases o with
  | some a => exact ⟨a, rfl, h⟩
  | none => exact h.elim
def gPut2 (i : Nat) (kf kg vf : Rho → R W) : Rho → R Out := fun ρ => (vf ρ).bind fun v => (asDat v).bind fun dv => match ρ[i]? with
  | some (.ow (.LL dss)) => (kf ρ).bind fun y => (asN y).bind fun n => (opR (ixN dss.length n)).bind fun a => (opR dss[a]?).bind fun ds => (kg ρ).bind fun z => (asN z).bind fun m => (opR (ixN ds.length m)).bind fun b =>
      .ok (.nx (ρ.set i (.ow (.LL (dss.set a (ds.set b dv))))))
  | _ => .no
def gApp2 (i : Nat) (kf vf : Rho → R W) : Rho → R Out := fun ρ => match ρ[i]? with
  | some (.ow (.LL dss)) => (kf ρ).bind fun y => (asN y).bind fun n => (opR (ixN dss.length n)).bind fun a => (opR dss[a]?).bind fun ds => (vf ρ).bind fun v => (asDat v).bind fun dv =>
      if ds.length < sizeLine then .ok (.nx (ρ.set i (.ow (.LL (dss.set a (ds ++ [dv])))))) else .no
  | _ => .no
section
variable {X : Cx} {U : WX}
theorem vs_put2 (i : Nat) {x : Str} {ke kg' ve : Expr} {kf kg vf : Rho → R W} {p p2 p3 pos : Pos} (hu : X.A.units + 65 < cLine) (hk : VE X U ke kf) (hk2 : VE X U kg' kg) (hvv : VE X U ve vf) (hN : X.N[i]? = some x := by rfl) (hv : Vis X.env.scope x := by first | exact Or.inl rfl | exact Or.inr (Or.inl rfl) | exact Or.inr (Or.inr rfl)) (hd : (x == ("__debug__" : Str)) = false := by decide)
    (hcd : (x == ("__classdict__" : Str)) = false := by decide) (hpi : PlainIx ke := by exact fun _ _ => rfl)
    (ha : ∀ v, assign (.Subscript (.Subscript (.Name x p) ke p2) kg' p3) X.env v = (do
      let ov ← holding [v] (eval (.Subscript (.Name x p) ke p2) X.env)
      let iv ← holding [v, ov] (eval kg' X.env)
      standAt p3
      holding [v, ov, iv] (setItem ov iv v)
      release [v, ov, iv] []) := by intro _; rfl)
    (hs : swapsWithSole [.Subscript (.Subscript (.Name x p) ke p2) kg' p3] ve pos.line X.env = pure false := by rfl) (hw : swappedStores [.Subscript (.Subscript (.Name x p) ke p2) kg' p3] ve X.env = pure none := by rfl)
    (h1 : (assignEach [.Subscript (.Subscript (.Name x p) ke p2) kg' p3] X.env).map (·.2) = [assign (.Subscript (.Subscript (.Name x p) ke p2) kg' p3) X.env] := by rfl) :
    VS X U (.Assign [.Subscript (.Subscript (.Name x p) ke p2) kg' p3] ve pos) (gPut2 i kf kg vf) := by
  refine PS.imp (ps_asg hvv (pg_sub (pe_ix ix_list (pe_var hN hv hd hcd) hk hpi) hk2 set_list ha) hs hw h1) fun D σ H ⟨B, ρ, F, k, q⟩ => ?_
  unfold gPut2 at q
  rw [run_bind] at q
  refine ⟨B, ρ, F, k, run_mono q (fun w _ q v F1 H1 e1 r1 => ?_) fun c q => ex_of k q⟩
  obtain ⟨dv, ew, q2⟩ := asDat_run q
  subst ew
  clear q
  have q := q2
  clear q2
  have k1 := k.ext e1
  split at q
  · rename_i dss hds
    obtain ⟨a, l, ha1, ho, _⟩ := k1.getOw hds
    rw [run_bind] at q
    refine ⟨.ref a, ha1, B, ρ, F1, k1, run_mono q (fun y _ q yv F2 H2 e2 r2 => ?_) fun c q => ex_of k1 q⟩
    obtain ⟨n, rfl, q⟩ := asN_run q
    obtain ⟨ai, hai, q⟩ := opR_run q
    obtain ⟨ds, hdsi, q⟩ := opR_run q
    have k2 := k1.ext e2
    obtain ⟨a', l', ha', ho', _⟩ := k2.getOw hds
    rw [ha1] at ha'; cases ha'
    obtain ⟨bs, rfl, nd, hx, hr⟩ := ho'
    obtain ⟨b, xs, hb, hbx, hbd⟩ := hr.get hdsi
    cases r2
    refine ⟨a, bs.map V.ref, n, .ref b, rfl, rfl, .of hx, ?_, ?_⟩
    · unfold atI
      rw [List.length_map, hr.len, hai]
      show (bs.map V.ref)[ai]? = _
      rw [List.getElem?_map, hb]; rfl
    rw [run_bind] at q
    refine ⟨B, ρ, F2, k2, run_mono q (fun z _ q zv F3 H3 e3 r3 => ?_) fun c q => ex_of k2 q⟩
    obtain ⟨m, rfl, q⟩ := asN_run q
    obtain ⟨bi, hbi, q⟩ := opR_run q
    obtain ⟨a', l', ha', ho', up⟩ := (k2.ext e3).getOw hds
    rw [ha1] at ha'; cases ha'
    obtain ⟨bs', rfl, nd', hx', hr'⟩ := ho'
    have hxx := e3.hh _ _ hx
    rw [hxx] at hx'
    have hbs : bs.map V.ref = bs'.map V.ref := HO.lst.inj (Option.some.inj hx')
    have hbs : bs = bs' := by
      have : ∀ {l m : List Addr}, l.map V.ref = m.map V.ref → l = m := by
        intro l
        induction l with
        | nil => intro m h; cases m with
          | nil => rfl
          | cons _ _ => cases h
        | cons a l ih => intro m h; cases m with
          | nil => cases h
          | cons c m => rw [List.map_cons, List.map_cons] at h; injection h with h1 h2; injection h1 with h1; rw [h1, ih h2]
      exact this hbs
    subst hbs
    obtain ⟨b2, xs2, hb2, hbx2, hbd2⟩ := hr'.get hdsi
    rw [hb] at hb2; cases hb2
    cases r3
    refine ⟨b, xs2, m, bi, rfl, rfl, hbx2, by rw [hbd2.len]; exact hbi, ?_⟩
    have hne : a ≠ b := fun e => by
      rw [List.nodup_cons] at nd
      exact nd.1 (e ▸ List.mem_of_getElem? hb)
    have hnd : bs.Nodup := (List.nodup_cons.mp nd).2
    refine q F3 σ _ (up b _ _ (List.mem_cons_of_mem _ (List.mem_of_getElem? hb)) (fun _ h => nomatch h) ⟨bs, rfl, nd, by rw [upd_ne hne]; exact hxx, LLR.put (hbd2.set (r1.mono (e2.ff.trans e3.ff)) bi) hr' hnd hb⟩)
  · exact q.elim
theorem vs_append2 (i : Nat) {x : Str} {ke e : Expr} {kf f : Rho → R W} {p p2 apos cpos pos : Pos} (hu : X.A.units + 65 < cLine) (hk : VE X U ke kf) (h : VE X U e f) (hN : X.N[i]? = some x := by rfl) (hv : Vis X.env.scope x := by first | exact Or.inl rfl | exact Or.inr (Or.inl rfl) | exact Or.inr (Or.inr rfl)) (hd : (x == ("__debug__" : Str)) = false := by decide)
    (hcd : (x == ("__classdict__" : Str)) = false := by decide) (hpi : PlainIx ke := by exact fun _ _ => rfl)
    (hbase : attributeBase (.Subscript (.Name x p) ke p2) "append" X.env (eval (.Subscript (.Name x p) ke p2) X.env) = eval (.Subscript (.Name x p) ke p2) X.env := by rfl) (hline : (apos.endLine == cpos.line) = true := by rfl)
    (hs1 : starEach [e] X.env = (false, eval e X.env) :: starEach [] X.env := by rfl)
    (hs : swapsWith (.Call (.Attribute (.Subscript (.Name x p) ke p2) "append" apos) [e] [] cpos) none pos.line X.env = pure false := by rfl) : VS X U (.Expr (.Call (.Attribute (.Subscript (.Name x p) ke p2) "append" apos) [e] [] cpos) pos) (gApp2 i kf f) := by
  refine PS.imp (ps_expr (pe_bm PySem.F.plainAttrs_list PySem.F.slot_list_append PySem.F.type_list_append mt_append (pe_ix ix_list (pe_var hN hv hd hcd) hk hpi) (pa_cons h pa_nil hs1) hbase (by rw [hs1]; rfl) hline hs1 rfl) hs) fun D σ H ⟨B, ρ, F, k, q⟩ => ?_
  unfold gApp2 at q
  split at q
  · rename_i dss hds
    obtain ⟨a, l, ha1, ho, _⟩ := k.getOw hds
    rw [run_bind] at q
    refine ⟨.ref a, ha1, B, ρ, F, k, run_mono q (fun y _ q yv F2 H2 e2 r2 => ?_) fun c q => ex_of k q⟩
    obtain ⟨n, rfl, q⟩ := asN_run q
    obtain ⟨ai, hai, q⟩ := opR_run q
    obtain ⟨ds, hdsi, q⟩ := opR_run q
    have k2 := k.ext e2
    obtain ⟨a', l', ha', ho', _⟩ := k2.getOw hds
    rw [ha1] at ha'; cases ha'
    obtain ⟨bs, rfl, nd, hx, hr⟩ := ho'
    obtain ⟨b, xs, hb, hbx, hbd⟩ := hr.get hdsi
    cases r2
    refine ⟨a, bs.map V.ref, n, .ref b, rfl, rfl, .of hx, ?_, .inl ⟨rfl, xs, .of hbx⟩, ?_⟩
    · unfold atI
      rw [List.length_map, hr.len, hai]
      show (bs.map V.ref)[ai]? = _
      rw [List.getElem?_map, hb]; rfl
    rw [run_bind] at q
    refine ⟨B, ρ, F2, k2, run_mono q (fun z _ q zv F3 H3 e3 r3 => ?_) fun c q => ex_of k2 q⟩
    obtain ⟨dv, rfl, q⟩ := asDat_run q
    obtain ⟨hl, q⟩ := run_if q
    obtain ⟨a', l', ha', ho', up⟩ := (k2.ext e3).getOw hds
    rw [ha1] at ha'; cases ha'
    obtain ⟨bs', rfl, nd', hx', hr'⟩ := ho'
    have hxx := e3.hh _ _ hx
    rw [hxx] at hx'
    have hbs : bs.map V.ref = bs'.map V.ref := HO.lst.inj (Option.some.inj hx')
    have hbs : bs = bs' := by
      have : ∀ {l m : List Addr}, l.map V.ref = m.map V.ref → l = m := by
        intro l
        induction l with
        | nil => intro m h; cases m with
          | nil => rfl
          | cons _ _ => cases h
        | cons a l ih => intro m h; cases m with
          | nil => cases h
          | cons c m => rw [List.map_cons, List.map_cons] at h; injection h with h1 h2; injection h1 with h1; rw [h1, ih h2]
      exact this hbs
    subst hbs
    obtain ⟨b2, xs2, hb2, hbx2, hbd2⟩ := hr'.get hdsi
    rw [hb] at hb2; cases hb2
    refine ⟨b, xs2, zv, rfl, rfl, hbx2, by rw [hbd2.len]; exact hl, ?_⟩
    have hne : a ≠ b := fun e => by
      rw [List.nodup_cons] at nd
      exact nd.1 (e ▸ List.mem_of_getElem? hb)
    have hnd : bs.Nodup := (List.nodup_cons.mp nd).2
    refine q F3 σ _ (up b _ _ (List.mem_cons_of_mem _ (List.mem_of_getElem? hb)) (fun _ h => nomatch h) ⟨bs, rfl, nd, by rw [upd_ne hne]; exact hxx, LLR.put (hbd2.app (.one r3)) hr' hnd hb⟩)
  · exact q.elim
end
end Vd

/-! Val26: index and count in rows of numbers, displays of two pairs with text keys. -/
namespace Vd
open L2 PyProof.Rows PySem PySem.Spec
def asIl : W → Option (List Int)
  | .dat (.list ds) => asInts ds
  | _ => none
def pIndexI (ns : List Int) (i : Int) : R W := if i ∈ ns then .ok (wI (ns.idxOf i)) else .no
def pCountI (ns : List Int) (i : Int) : R W := .ok (wI (ns.count i : Nat))
def fI1 (h : List Int → Int → R W) (f g : Rho → R W) : Rho → R W := fun ρ => (f ρ).bind fun x => (opR (asIl x)).bind fun ns => (g ρ).bind fun y => (asN y).bind fun i => h ns i
def nDisp2K (k1 v1 k2 v2 : Rho → R W) : Rho → R OT := fun ρ => (k1 ρ).bind fun a => (v1 ρ).bind fun b => (k2 ρ).bind fun c => (v2 ρ).bind fun d => (asDat a).bind fun da => (asDat b).bind fun db => (asDat c).bind fun dc => (asDat d).bind fun dd =>
  match keyK da, keyK dc with
  | some x, some y => .ok (.dK (pt [(x, db)] y dd))
  | _, _ => .no
section
variable {X : Cx} {U : WX}
theorem idx_first (i : Int) : ∀ (ns : List Int), i ∈ ns → ns[ns.idxOf i]? = some i ∧ ∀ m, m < ns.idxOf i → ∀ z, ns[m]? = some z → z ≠ i
  | [], h => by simp at h
  | a :: l, h => by
    rw [List.idxOf_cons]
    by_cases e : a = i
    · subst e
      simp
    · have hb : (a == i) = false := by simpa using e
      rw [hb]
      have hm : i ∈ l := by rcases List.mem_cons.mp h with q | q; exact (e q.symm).elim; exact q
      obtain ⟨h1, h2⟩ := idx_first i l hm
      refine ⟨by simpa using h1, fun m hm z hz => ?_⟩
      cases m with
      | zero => simp at hz; subst hz; exact e
      | succ m => simp only [cond_false] at hm; exact h2 m (by omega) z (by simpa using hz)
theorem fI1_core {r : V → List V → Hp → VK → Prop} {h : List Int → Int → R W} (nx : ∀ a b c, h a b ≠ .ex c) (hr : ∀ F H a ns i (Q : VK), Sub F H → SqL X.K H a (ns.map V.int) → run (h ns i) (fun w => ∀ v F' H', Ext F H F' H' → RpW X.K X.mg F' w v → Q v H') (fun _ => False) → r (.ref a) [.int i] H Q)
    {e : Expr} {es : List Expr} {f g : Rho → R W} {σ : L2.St} {H : Hp} {Q : VK} (q : tE X U (fI1 h f g) σ H Q) : tBM X.K "list" r (tB X U f) (tCons (tB X U g) tNil) σ H Q := by
  obtain ⟨B, ρ, F, k, q⟩ := q
  unfold fI1 at q
  rw [run_bind] at q
  refine ⟨B, ρ, F, k, run_mono q (fun a _ q x F1 H1 e1 r1 => ?_) fun _ q => q⟩
  obtain ⟨ns, hns, q2⟩ := opR_run q
  clear q
  cases a with
  | kdat _ => cases hns
  | dK _ => cases hns
  | dT _ => cases hns
  | fn _ => cases hns
  | obj _ _ => cases hns
  | dat d =>
    cases d with
    | none => cases hns
    | bool _ => cases hns
    | int _ => cases hns
    | str _ => cases hns
    | tuple _ => cases hns
    | dict _ => cases hns
    | list ds =>
      obtain ⟨p, xs, rfl, h1, h2⟩ := r1
      have hns : asInts ds = some ns := hns
      have e := asInts_rep h2 hns
      subst e
      refine ⟨.inl ⟨rfl, _, .of h1⟩, ?_⟩
      rw [run_bind] at q2
      refine ⟨B, ρ, F1, k.ext e1, run_mono q2 (fun y _ q yv F2 H2 e2 r2 => ?_) fun c q C H' h1 h2 => q C H' h1 (e1.hh.trans h2)⟩
      obtain ⟨i, rfl, q⟩ := asN_run q
      cases r2
      exact hr F2 H2 p ns i Q e2.sub (.of (e2.hh _ _ h1)) (run_nox (X := X) (U := U) (σ := σ) (H := H2) (fun c => nx ns i c) (run_mono q (fun w _ q v F' H' e r => q v F' H' ((e1.trans e2).trans e) r) fun c q C H' h1 h2 => q C H' h1 ((e1.trans e2).hh.trans h2)))
theorem ve_index {o e : Expr} {f g : Rho → R W} {apos pos : Pos} (ho : VB X U o f) (he : VB X U e g) (hbase : attributeBase o "index" X.env (eval o X.env) = eval o X.env := by rfl) (hline : (apos.endLine == pos.line) = true := by rfl)
    (hs1 : starEach [e] X.env = (false, eval e X.env) :: starEach [] X.env := by rfl) : VE X U (.Call (.Attribute o "index" apos) [e] [] pos) (fI1 pIndexI f g) :=
  PE.imp (pe_bm PySem.F.plainAttrs_list PySem.F.slot_list_index PySem.F.type_list_index mt_index ho (pa_cons he pa_nil hs1) hbase (by rw [hs1]; rfl) hline hs1 rfl) fun σ H Q q => fI1_core (e := e) (es := []) (fun a b c => by unfold pIndexI; split <;> (intro h; cases h)) (fun F H a ns i Q s hq q => by
    unfold pIndexI at q
    obtain ⟨hl, q⟩ := run_if q
    obtain ⟨h1, h2⟩ := idx_first i ns hl
    refine ⟨a, ns.map V.int, .int i, ns.idxOf i, .int i, rfl, rfl, hq, rfl, flat_ints ns, by rw [List.getElem?_map, h1]; rfl, by simp [eqV], fun m z' hm hz => ?_, q _ F H (.refl s) rfl⟩
    rw [List.getElem?_map] at hz
    cases w : ns[m]? with
    | none => rw [w] at hz; cases hz
    | some y =>
      rw [w] at hz; cases hz
      have := h2 m hm y w
      simp [eqV, this]) q
theorem ve_countI {o e : Expr} {f g : Rho → R W} {apos pos : Pos} (ho : VB X U o f) (he : VB X U e g) (hbase : attributeBase o "count" X.env (eval o X.env) = eval o X.env := by rfl) (hline : (apos.endLine == pos.line) = true := by rfl)
    (hs1 : starEach [e] X.env = (false, eval e X.env) :: starEach [] X.env := by rfl) : VE X U (.Call (.Attribute o "count" apos) [e] [] pos) (fI1 pCountI f g) :=
  PE.imp (pe_bm PySem.F.plainAttrs_list PySem.F.slot_list_count PySem.F.type_list_count mt_lcount ho (pa_cons he pa_nil hs1) hbase (by rw [hs1]; rfl) hline hs1 rfl) fun σ H Q q => fI1_core (e := e) (es := []) (fun a b c => by unfold pCountI; intro h; cases h) (fun F H a ns i Q s hq q => ⟨a, ns, i, rfl, rfl, hq, q _ F H (.refl s) rfl⟩) q
theorem vn_disp2K {k1 v1 k2 v2 : Expr} {a b c d : Rho → R W} {pos : Pos} (h1 : VE X U k1 a) (h2 : VE X U v1 b) (h3 : VE X U k2 c) (h4 : VE X U v2 d) : VN X U (.Dict [some k1, some k2] [v1, v2] pos) (nDisp2K a b c d) :=
  PE.imp (pe_disp (pps_cons h1 h2 (pps_cons h3 h4 pps_nil)) (by rfl) (by rfl) (fun z => by cases z) (Nat.le_of_ble_eq_true rfl)) fun σ H Q ⟨B, ρ, F, k, q⟩ => fun p hp => by
    unfold nDisp2K at q
    rw [run_bind] at q
    have e0 : Ext F H F (upd H p (.dK [])) := .newO k.sub hp
    have k0 := k.ext e0
    refine ⟨B, ρ, F, k0, run_mono q (fun y1 _ q x1 F1 H1 e1 r1 => ?_) fun c q C H' h1 h2 => q C H' h1 (e0.hh.trans h2)⟩
    rw [run_bind] at q
    refine ⟨B, ρ, F1, k0.ext e1, run_mono q (fun y2 _ q x2 F2 H2 e2 r2 => ?_) fun c q C H' h1 h2 => q C H' h1 ((e0.trans e1).hh.trans h2)⟩
    rw [run_bind] at q
    refine ⟨B, ρ, F2, (k0.ext e1).ext e2, run_mono q (fun y3 _ q x3 F3 H3 e3 r3 => ?_) fun c q C H' h1 h2 => q C H' h1 (((e0.trans e1).trans e2).hh.trans h2)⟩
    rw [run_bind] at q
    refine ⟨B, ρ, F3, ((k0.ext e1).ext e2).ext e3, run_mono q (fun y4 _ qz x4 F4 H4 e4 r4 => ?_) fun c q C H' h1 h2 => q C H' h1 ((((e0.trans e1).trans e2).trans e3).hh.trans h2)⟩
    obtain ⟨da, w1, q1⟩ := asDat_run qz
    obtain ⟨db, w2, q2⟩ := asDat_run q1
    clear q1
    obtain ⟨dc, w3, q3⟩ := asDat_run q2
    clear q2
    obtain ⟨dd, w4, qf⟩ := asDat_run q3
    clear q3
    subst w1 w2 w3 w4
    have e04 := (((e0.trans e1).trans e2).trans e3).trans e4
    have hp4 : H4 p = some (.dK []) := (((e1.trans e2).trans e3).trans e4).hh _ _ upd_same
    clear qz
    split at qf
    · rename_i x y hx hy
      have g1 := Ds.keyK r1 hx
      have g3 := Ds.keyK r3 hy
      subst g1 g3
      refine ⟨hp4, [(x, x2), (y, x4)], rfl, Nat.le_of_ble_eq_true rfl, ?_⟩
      have em : Ext F H F4 (Vd.minus H4 p) := Ext.minus (o := .dK []) k.sub hp (fun _ h => nomatch h) (((e1.trans e2).trans e3).trans e4)
      have hF : F4 p = none := em.sub.nn minus_self
      have ex : Ext F H F4 (upd (Vd.minus H4 p) p (.dK (mergeK [] [(x, x2), (y, x4)]))) := em.trans (.newO em.sub minus_self)
      rw [upd_minus] at ex
      refine qf p [p] F4 _ ex ⟨rfl, _, upd_same, ?_⟩ fun c hc => ?_
      · exact KvP.put r4 (KvP.cons (r2.mono (e3.ff.trans e4.ff)) .nil)
      · rw [List.mem_singleton.mp hc]
        exact ⟨hp, hF, ⟨_, upd_same, fun _ h => nomatch h⟩⟩
    · exact qf.elim
end
end Vd

/-! Val27: texts and tuples the other way round. -/
namespace Vd
open L2 PyProof.Rows PySem PySem.Spec
theorem adjust_rev (n : Nat) : Builtin.Slice.sliceAdjust none none (-1) (n : Int) = ((n : Int) - 1, -1) := by
  unfold Builtin.Slice.sliceAdjust
  have h1 : ((-1 : Int) < 0) := by omega
  simp only [h1, if_true]
theorem places_rev (n : Nat) : Builtin.Slice.slicePlaces ((n : Int) - 1) (-1) (-1) = n := by
  unfold Builtin.Slice.slicePlaces
  have h1 : ¬ ((-1 : Int) > 0) := by omega
  simp only [h1, if_false]
  split <;> (try rw [show (- -1 : Int) = 1 by decide, Int.ediv_one]) <;> omega
section
variable {prog : Program} {w : World} {A : Around} {E : Value → Shared → Prop} {s : Shared}
theorem sliceApplied_rev {sl : Addr} {vl vu vs : Value} {n : Nat} {Q : Int × Int × Nat → Shared → Prop} (hs : s.heap.IsSliceOf sl vl vu vs) (pl : IsPart vl none) (pu : IsPart vu none) (ps : IsPart vs (some (-1)))
    (h : Q ((n : Int) - 1, -1, n) s) : wpAny (model prog w) A (Builtin.Slice.sliceApplied (.ref sl) (pure (n : Int))) Q E s := by
  obtain ⟨os, hos, hcs, hds⟩ := id hs
  unfold Builtin.Slice.sliceApplied Builtin.Slice.sliceFields
  refine wpAny_bind (wpAny_bind (wpAny_field hos hds (x := vl) rfl (wpAny_bind (wpAny_field hos hds (x := vu) rfl (wpAny_bind (wpAny_field hos hds (x := vs) rfl (wpAny_pure ?_)))))))
  refine wpAny_bind (HT.slicePart_ ps ?_)
  show wpAny _ _ (if ((-1 : Int) == 0) = true then _ else _) _ _ s
  rw [if_neg (by decide)]
  refine wpAny_bind (HT.slicePart_ pl (wpAny_bind (HT.slicePart_ pu (wpAny_bind (wpAny_pure ?_)))))
  show wpAny _ _ (match Builtin.Slice.sliceAdjust none none (-1) (n : Int) with | (lo, hi) => pure (lo, (-1 : Int), Builtin.Slice.slicePlaces lo hi (-1))) _ _ s
  rw [adjust_rev n]
  show wpAny _ _ (pure ((n : Int) - 1, (-1 : Int), Builtin.Slice.slicePlaces ((n : Int) - 1) (-1) (-1))) _ _ s
  rw [places_rev]
  exact wpAny_pure h
theorem pick_rev (xs : Array Value) : ((List.range xs.size).filterMap fun (m : Nat) => xs[((xs.size : Int) - 1 + (m : Int) * -1).toNat]?).toArray = xs.toList.reverse.toArray := by
  have e : ((List.range xs.size).filterMap fun (m : Nat) => xs[((xs.size : Int) - 1 + (m : Int) * -1).toNat]?) = ((List.range xs.size).map fun k => xs.size - 1 - k).filterMap (xs[·]?) := by
    rw [List.filterMap_map]
    have gen : ∀ (l : List Nat) (f g : Nat → Option Value), (∀ m ∈ l, f m = g m) → l.filterMap f = l.filterMap g := by
      intro l f g
      induction l with
      | nil => intro _; rfl
      | cons a l ih =>
        intro h
        rw [List.filterMap_cons, List.filterMap_cons, h a List.mem_cons_self, ih fun m hm => h m (List.mem_cons_of_mem _ hm)]
    apply gen
    intro m hm
    rw [List.mem_range] at hm
    have : ((xs.size : Int) - 1 + (m : Int) * -1).toNat = xs.size - 1 - m := by omega
    rw [this]; rfl
  rw [e, PySem.W.krv_range, List.filterMap_reverse, PySem.W.krv_all]
theorem getItem_tuple_rev {t sl : Addr} {items : Array Value} {vl vu vs : Value} {Q : Value → Shared → Prop} (ht : IsTup s.heap t items) (hs : s.heap.IsSliceOf sl vl vu vs) (pl : IsPart vl none) (pu : IsPart vu none) (ps : IsPart vs (some (-1)))
    (h : Q (.ref s.heap.objs.size) { s with heap := s.heap.push { cls := .type "tuple", data := .seq items.toList.reverse.toArray } })
    (hsz : items.size ≤ sizeLine) : wpAny (model prog w) A (getItem (.ref t) (.ref sl)) Q E s := by
  have htake : sizeOk (.seq items.toList.reverse.toArray) := by
    show items.toList.reverse.toArray.size ≤ sizeLine
    rw [List.size_toArray, List.length_reverse, Array.length_toList]
    exact hsz
  obtain ⟨os, hos, hcs, hds⟩ := id hs
  have hTs : s.TypeIs (.ref sl) "slice" := ⟨os, hos, hcs⟩
  unfold getItem
  try with_reducible refine wpAny_holding ?_
  first | refine wpAny_bind (wpAny_pure ?_) | skip
  refine wpAny_bind (wpAny_sequenceKey ht.typeIs (by decide) ?_)
  refine wpAny_bind (wpAny_callSpecial?_slot (name := Str.ofString "__getitem__") ht.typeIs PyProof.Rows.slot_tuple_getitem
    (wpAny_call_entry PyProof.Rows.slot_tuple_getitem ht.typeIs entry_tuple_getitem ?_ (args_tuple_getitem _ _)))
  show wpAny _ _ (Builtin.Tuple.tupleItemsOf (.ref t) >>= _) _ _ s
  refine wpAny_bind (tupleItemsOf_ ht ?_)
  refine wpAny_bind (wpAny_typeOf hTs ?_)
  rw [if_pos (by decide)]
  refine wpAny_bind (sliceApplied_rev hs pl pu ps ?_)
  show wpAny _ _ (if ((((items.size : Int) - 1) == 0 && (-1 : Int) == 1 && items.size == items.size) = true) then _ else _) _ _ s
  rw [if_neg (by rw [show ((-1 : Int) == 1) = false by decide]; simp), pick_rev]
  first
    | exact wpAny_bind (m := Builtin.Tuple.tupleExact _) (wpAny_newObj_type (wpAny_pure ⟨_, rfl, wpAny_pure h⟩) htake)
    | exact wpAny_bind (m := Builtin.Tuple.tupleExact _) (wpAny_newObj_type (wpAny_bind (wpAny_pure (wpAny_pure ⟨_, rfl, wpAny_pure h⟩))) htake)
    | exact wpAny_bind (wpAny_bind (m := Builtin.Tuple.tupleExact _) (wpAny_newObj_type (wpAny_pure (wpAny_pure ⟨_, rfl, wpAny_pure h⟩)) htake))
    | exact wpAny_bind (wpAny_bind (m := Builtin.Tuple.tupleExact _) (wpAny_newObj_type (wpAny_pure ⟨_, rfl, wpAny_pure h⟩) htake))
end
theorem str_rev_picked (z : Str) : ((Builtin.Str.strSliceIndices none none (-1) z.length).filterMap (z.cps[·]?)) = z.cps.toList.reverse := by
  have e : Builtin.Str.strSliceIndices none none (-1) z.length = sliceRange ((z.length : Int) - 1) (-1) (-1) := by
    unfold Builtin.Str.strSliceIndices
    rfl
  rw [e, PySem.W.krv_sliceRange, PySem.W.krv_range, List.filterMap_reverse]
  congr 1
  exact PySem.W.krv_all z.cps
section
variable {X : Cx} {U : WX}
def tRevA (K : PySem.W.Frag) (te : TE) : TE := fun σ H Q => te σ H fun x H1 => (∃ a xs, x = .ref a ∧ SqL K H1 a xs ∧ ∀ p, H1 p = none → Q (.ref p) (upd H1 p (.lst xs.reverse))) ∨
  (∃ a xs, x = .ref a ∧ SqT K H1 a xs ∧ ∀ p, H1 p = none → Q (.ref p) (upd H1 p (.tup xs.reverse))) ∨ (∃ z : Str, x = .str z ∧ z.length ≤ sizeLine ∧ Q (.str (S z.cps.toList.reverse)) H1)
theorem pe_revA {e : Expr} {te : TE} {k : Nat} {p1 p2 p3 pos : Pos} (he : PE X e te) : PE X (.Subscript e (.Slice none none (some (.UnaryOp .USub (.Constant (.int 1) k p1) p2)) p3) pos) (tRevA X.K te) := by
  refine ⟨fun pins s σ H Q I h => ?_⟩
  refine Subscript_ (thn (he.run pins s σ H _ I h) fun v s1 ⟨x, H1, I1, r1, q1⟩ => ?_)
  have hst : PO X (some (.UnaryOp .USub (.Constant (.int 1) k p1) p2)) (tPart (tUn (rU fun i => .int (-i)) (tC (.int 1)))) := po_some (pe_un un_neg pe_int)
  refine wpAny_Slice (thn (po_none.run pins s1 σ H1 (fun o H2 => o = none ∧ H2 = H1) I1 ⟨rfl, rfl⟩) fun vl s2 ⟨l, H2, I2, pl, el, e2⟩ => ?_)
  subst el e2
  refine thn (po_none.run pins s2 σ H2 (fun o H3 => o = none ∧ H3 = H2) I2 ⟨rfl, rfl⟩) fun vu s3 ⟨u, H3, I3, pu, eu, e3⟩ => ?_
  subst eu e3
  refine thn (hst.run pins s3 σ H3 (fun o H4 => o = some (-1) ∧ H4 = H3) I3 ⟨1, rfl, -1, rfl, rfl, rfl⟩) fun vs s4 ⟨o, H4, I4, ps, eo, e4⟩ => ?_
  subst eo e4
  have I5 : Inv X pins σ H4 { s4 with heap := s4.heap.push { cls := .type "slice", data := .fields #[vl, vu, vs] } } := I4.kept (t' := s4.toks) fun b ob q => Heap.get?_push_of_some _ q
  rcases q1 with ⟨a, xs, ex, hx, q⟩ | ⟨a, xs, ex, hx, q⟩ | ⟨z, ex, hz, q⟩
  · subst ex
    cases r1
    obtain ⟨its, r, ht, hz⟩ := I5.list hx
    have hlen := r.length
    show wpAny (model X.prog X.w) X.A (subscriptTail e (.Slice none none (some (.UnaryOp .USub (.Constant (.int 1) k p1) p2)) p3) (.ref a) (.ref s4.heap.objs.size)) (EP X pins σ Q) X.xe { s4 with heap := s4.heap.push { cls := .type "slice", data := .fields #[vl, vu, vs] } }
    refine tail_any (ops := [.ref a, .ref s4.heap.objs.size]) ht.isList.typeIs (PySem.slot_list_getitem.lookup) ?_ (by with_unfolding_all rfl)
    refine wpAny_getItem_list_slice ht.isList (Heap.IsSliceOf.new _ vl vu vs) pl pu ps (by decide) ?_ (by rw [List.size_toArray]; omega)
    rw [PySem.W.krv_pick]
    refine ⟨.ref _, _, I5.laid (t' := s4.toks) (o := .lst xs.reverse) (fun b ob q => Heap.get?_push_of_some _ q) (Nat.le_refl _) ?_, rfl, q _ (I5.hok.fresh (Nat.le_refl _))⟩
    exact ⟨by rw [List.length_reverse]; exact hz, _, 0, r.reverse, Heap.get?_push_size _ rfl⟩
  · subst ex
    cases r1
    obtain ⟨its, r, ht, hz⟩ := I5.tuple hx
    have hlen := r.length
    show wpAny (model X.prog X.w) X.A (subscriptTail e (.Slice none none (some (.UnaryOp .USub (.Constant (.int 1) k p1) p2)) p3) (.ref a) (.ref s4.heap.objs.size)) (EP X pins σ Q) X.xe { s4 with heap := s4.heap.push { cls := .type "slice", data := .fields #[vl, vu, vs] } }
    refine tail_any (ops := [.ref a, .ref s4.heap.objs.size]) ht.typeIs (PyProof.Rows.slot_tuple_getitem.lookup) ?_ (by with_unfolding_all rfl)
    refine getItem_tuple_rev ht (Heap.IsSliceOf.new _ vl vu vs) pl pu ps ?_ (by rw [List.size_toArray]; omega)
    refine ⟨.ref _, _, I5.laid (t' := s4.toks) (o := .tup xs.reverse) (fun b ob q => Heap.get?_push_of_some _ q) (Nat.le_refl _) ?_, rfl, q _ (I5.hok.fresh (Nat.le_refl _))⟩
    exact ⟨by rw [List.length_reverse]; exact hz, _, r.reverse, IsTup.new _ _⟩
  · subst ex
    obtain ⟨t, rfl⟩ := r1
    obtain ⟨l, rfl, el⟩ := IsPart.raw pl
    obtain ⟨u, rfl, eu⟩ := IsPart.raw pu
    obtain ⟨st, rfl, es⟩ := IsPart.raw ps
    show wpAny (model X.prog X.w) X.A (subscriptTail e (.Slice none none (some (.UnaryOp .USub (.Constant (.int 1) k p1) p2)) p3) (.str z t) (.ref s4.heap.objs.size)) (EP X pins σ Q) X.xe _
    refine tail_any (ops := [.str z t, .ref s4.heap.objs.size]) (typeIs_str _ _ _) (PySem.F.slot_str_getitem.lookup) ?_ (by with_unfolding_all rfl)
    have hs := Heap.IsSliceOf.new s4.heap (partValue l) (partValue u) (partValue st)
    obtain ⟨os, hos, hcs, hds⟩ := hs
    have e1 : (st.map (·.1)).getD 1 = -1 := by rw [es]; rfl
    refine wpAny_getItem_str_slice (l := l) (u := u) (st := st) ⟨os, hos, hcs, hds⟩ (by rw [e1]; decide) ?_
    unfold sliceMade slicePicked
    rw [e1, el, eu]
    rw [if_neg (by rw [show ((-1 : Int) == 1) = false by decide]; simp), str_rev_picked]
    exact ⟨by show (S z.cps.toList.reverse).length ≤ sizeLine; simp only [Str.length, List.size_toArray, List.length_reverse, Array.length_toList]; exact hz, .str _, H4, I5.tok _, ⟨_, rfl⟩, q⟩
/-- x[::-1] -/
def pRevA : W → R W
  | .dat (.list ds) => .ok (.dat (.list ds.reverse))
  | .dat (.tuple ds) => .ok (.dat (.tuple ds.reverse))
  | .dat (.str z) => if z.length ≤ sizeLine then .ok (.dat (.str (S z.cps.toList.reverse))) else .no
  | _ => .no
theorem ve_revA {e : Expr} {f : Rho → R W} {k : Nat} {p1 p2 p3 pos : Pos} (he : VB X U e f) : VE X U (.Subscript e (.Slice none none (some (.UnaryOp .USub (.Constant (.int 1) k p1) p2)) p3) pos) (f1 pRevA f) :=
  PE.imp (pe_revA he) fun σ H Q ⟨B, ρ, F, k, q⟩ => by
    unfold f1 at q
    rw [run_bind] at q
    refine ⟨B, ρ, F, k, run_mono q (fun w _ q v F1 H1 e1 r1 => ?_) fun _ q => q⟩
    unfold pRevA at q
    split at q
    · obtain ⟨a, xs, rfl, h1, h2⟩ := r1
      exact .inl ⟨a, xs, rfl, .of h1, fun p hp => q _ _ _ (e1.trans (.new e1.sub hp)) ⟨p, _, rfl, upd_same, h2.rev.mono (.upd (e1.sub.nn hp))⟩⟩
    · obtain ⟨a, xs, rfl, h1, h2⟩ := r1
      exact .inr (.inl ⟨a, xs, rfl, .of (e1.sub _ _ h1), fun p hp => q _ _ _ (e1.trans (.new e1.sub hp)) ⟨p, _, rfl, upd_same, h2.rev.mono (.upd (e1.sub.nn hp))⟩⟩)
    · obtain ⟨hl, q⟩ := run_if q
      cases r1
      exact .inr (.inr ⟨_, rfl, hl, q _ _ _ e1 rfl⟩)
    · exact q.elim
end
end Vd

/-! Val20: len(set(xs)), xs a list of texts. -/
namespace Vd
open L2 PyProof.Rows PySem PySem.Spec PySem.Calls
theorem ddup_snoc {α : Type} [DecidableEq α] (l : List α) (x : α) : (ddup (l ++ [x])).length = if x ∈ l then (ddup l).length else (ddup l).length + 1 := by
  by_cases h : x ∈ l
  · rw [if_pos h]
    refine (same_len (ddup_nodup l) (fun a ha => ?_) fun a ha => ?_).symm
    · exact List.mem_append_left _ (ddup_mem.mp ha)
    · rcases List.mem_append.mp ha with ha | ha
      · exact ddup_mem.mpr ha
      · simp at ha; subst ha; exact ddup_mem.mpr h
  · rw [if_neg h]
    have nd : (ddup l ++ [x]).Nodup := by
      rw [List.nodup_append]
      refine ⟨ddup_nodup l, by simp, fun a ha b hb => ?_⟩
      simp at hb
      subst hb
      exact fun e => h (e ▸ ddup_mem.mp ha)
    have := same_len nd (m := l ++ [x]) (fun a ha => by simpa [ddup_mem] using ha) fun a ha => by simpa [ddup_mem] using ha
    rw [← this]; simp
section
variable {prog : Program} {w : World} {A : Around}
/-- the texts laid into the set, one by one -/
theorem lay_strs {R : Result → Shared → Prop} {it : Addr} {fp wr : List Addr} {G : Array GenState → Array GenState → Prop} {n : Nat} {P : Nat → Value → Prop} {St : Nat → Shared → Prop} (wk : WalksS prog w A.in1 it fp wr G n P St) {c : Addr} (out : c ∉ fp) {ts : List Str} (ln : ts.length = n) (rm : n + 1 < scanBound)
    (vl : ∀ i v, P i v → ∃ tk, v = .str (ts.getD i Str.empty) tk) (s0 : Shared) (st0 : St 0 s0) (empty : s0.heap.SetOf (PySem.strKind prog w) c (fun _ => false) 0)
    (fin : ∀ s9, Moved (c :: wr) G s0 s9 → s9.heap.SetOf (PySem.strKind prog w) c (fun t => ts.any (· == t)) (ddup ts).length → R (.ok (.ret .none)) s9) :
    codeAny (model prog w) A (.builtin "set.update.loop" ⟨[.ref c, .ref it], []⟩) R s0 := by
  have cw : c ∉ wr := fun q => out (wk.sub _ q)
  have up : ∀ b ∈ wr, b ∈ c :: wr := fun b hb => List.mem_cons_of_mem _ hb
  suffices H : ∀ (d i : Nat) (sa : Shared), i + d = n → St i sa → sa.heap.SetOf (PySem.strKind prog w) c (fun t => (ts.take i).any (· == t)) (ddup (ts.take i)).length →
      (∀ s9, Moved (c :: wr) G sa s9 → s9.heap.SetOf (PySem.strKind prog w) c (fun t => ts.any (· == t)) (ddup ts).length → R (.ok (.ret .none)) s9) → codeAny (model prog w) A (.builtin "set.update.loop" ⟨[.ref c, .ref it], []⟩) R sa from
    H n 0 s0 (by omega) st0 (PyProof.Rows.SetOf_congr empty (fun _ => rfl) rfl) fin
  intro d
  induction d with
  | zero =>
    intro i sa hi sti has done
    have e : i = n := by omega
    subst e
    have et : ts.take i = ts := List.take_of_length_le (by omega)
    rw [et] at has
    refine codeAny_builtin PyProof.Rows.F.entry_set_update_loop ?_
    rw [Around.under_plainId PyProof.Rows.F.plain_set_update_loop _]
    refine wpAny_bind (wk.done sa _ _ sti fun s9 mv => ?_)
    obtain ⟨o, es, ep, t, g0, more⟩ := has
    exact wpAny_pure (done s9 (mv.mono up) ⟨o, es, ep, t, mv.heap c _ cw g0, more⟩)
  | succ d ih =>
    intro i sa hi sti has done
    refine codeAny_builtin PyProof.Rows.F.entry_set_update_loop ?_
    rw [Around.under_plainId PyProof.Rows.F.plain_set_update_loop _]
    refine wpAny_bind (wk.item i sa _ _ (by omega) sti fun v sb pv stb mv => ?_)
    obtain ⟨tk, rfl⟩ := vl i v pv
    have hab : sb.heap.SetOf (PySem.strKind prog w) c (fun t => (ts.take i).any (· == t)) (ddup (ts.take i)).length := by
      obtain ⟨o, es, ep, t, g0, more⟩ := has
      exact ⟨o, es, ep, t, mv.heap c _ cw g0, more⟩
    refine wpAny_bind (wpAny_holding ?_)
    unfold setAdd
    refine wpAny_holding (wpAny_bind ((PySem.strKind prog w).pyHash (k := ts.getD i Str.empty) (strKind_is _ _ _ _) ?_))
    have few : (ddup (ts.take i)).length ≤ n := by
      have h1 := sub_len (ddup_nodup (ts.take i)) (m := ts.take i) fun a ha => ddup_mem.mp ha
      rw [List.length_take] at h1
      omega
    refine wpAny_setAddHashed_of (knd := PySem.strKind prog w) (s := { sb with toks := sb.toks + 1 }) (strKind_is _ _ _ _) rfl hab (by omega) fun hq same got => ?_
    have ex : ts.take (i + 1) = ts.take i ++ [ts.getD i Str.empty] := by
      rw [List.take_add_one, List.getD_eq_getElem?_getD, List.getElem?_eq_getElem (by omega)]; rfl
    have anyIff : ∀ t : Str, (ts.take i).any (· == t) = decide (t ∈ ts.take i) := fun t => by
      rw [Bool.eq_iff_iff]; simp
    have next : hq.SetOf (PySem.strKind prog w) c (fun t => (ts.take (i + 1)).any (· == t)) (ddup (ts.take (i + 1))).length := by
      refine PyProof.Rows.SetOf_congr got (fun t => ?_) ?_
      · rw [ex, List.any_append]
        congr 1
        by_cases q : t = ts.getD i Str.empty
        · rw [decide_eq_true q, ← q]; exact (by rw [List.any_cons, beq_self_eq_true]; rfl)
        · have q2 : (ts.getD i Str.empty == t) = false := beq_eq_false_iff_ne.mpr fun e => q e.symm
          rw [decide_eq_false q, List.any_cons, q2]; rfl
      · rw [ex, ddup_snoc]
        simp only [anyIff, decide_eq_true_eq]
    have away : ∀ b o, b ≠ c → sb.heap.get? b = some o → hq.get? b = some o := fun b o hb e => by rw [same.2 b hb]; exact e
    refine wpAny_pure ⟨plainId_quiet PyProof.Rows.F.plain_set_update_loop _, ih (i + 1) _ (by omega) (wk.frame _ sb _ _ stb (Nat.le_succ _) fun b hb o e => away b o (fun q => out (q ▸ hb)) e) next fun s9 mv9 has9 => ?_⟩
    refine done s9 (Moved.trans wk.gtrans ((mv.mono up).then_heap (Nat.le_succ _) fun b o hb e => ?_) mv9) has9
    exact away b o (fun q => hb (q ▸ List.mem_cons_self)) e
end
section
variable {prog : Program} {w : World} {A : Around} {E : Value → Shared → Prop} {s : Shared}
set_option maxHeartbeats 3200000 in
/-- set(xs) of a list of texts -/
theorem call_set_texts {l : Addr} {us : Array Value} {ts : List Str} {Q : Value → Shared → Prop} (calm : A.handled = none) (isl : s.heap.IsList l us) (are : PyProof.Rows.StrsAre us.toList ts) (few : ts.length + 1 < scanBound)
    (told : ∀ (hp : Heap) (k : Nat), hp.SetOf (PySem.strKind prog w) s.heap.objs.size (fun t => ts.any (· == t)) (ddup ts).length → (∀ b o, b < s.heap.objs.size → s.heap.get? b = some o → hp.get? b = some o) → Q (.ref s.heap.objs.size) { s with heap := hp, toks := k }) :
    wpAny (model prog w) A (call (.type "set") [.ref l]) Q E s := by
  obtain ⟨m0, m1, m2⟩ := PySem.F.called_set.mro
  have f1 := PySem.F.called_set.made
  have f2 := PySem.F.called_set.sub
  refine wpAny_call (codeAny_of_tree (show wpAny _ _ (callAny (.type "set") _) _ _ _ from wpAny_pure ⟨Code.quiet_builtin _ (by decide +kernel), codeAny_builtin PySem.F.entry_type_call ?_⟩))
  rw [Around.under_plain (weight_type_call_type "set" [.ref l] []) rfl]
  have f3 := PySem.F.called_set.notType
  have f4 := PySem.F.called_set.canCreate
  have f5 := PySem.F.typeCall_set_1 (.ref l)
  repeat (any_goals (first | assumption | wp_step))
  refine codeAny_mono (code_set_new_1 (.ref l) (E := E) (Q₁ := fun x sx => ∃ led : Bool, x = .ref s.heap.objs.size ∧ sx = { s with heap := s.heap.push { cls := .type "set", dict := none, data := .set #[] 0 (.fresh 0 0 led) } }) fun led => ⟨led, rfl, rfl⟩) fun r1 s1 hr1 => ?_
  cases r1 with
  | error e => exact hr1
  | ok fl =>
    cases fl with
    | ret x =>
      obtain ⟨led, rfl, rfl⟩ := hr1
      have at1 : (s.heap.push { cls := .type "set", dict := none, data := .set #[] 0 (.fresh 0 0 led) }).get? s.heap.objs.size = some { cls := .type "set", dict := none, data := .set #[] 0 (.fresh 0 0 led) } := Heap.get?_push_size _ rfl
      have ty1 : Shared.TypeIs { s with heap := s.heap.push { cls := .type "set", dict := none, data := .set #[] 0 (.fresh 0 0 led) } } (.ref s.heap.objs.size) "set" := ⟨_, at1, rfl⟩
      have g1 := PySem.F.called_set.init.lookup
      have g2 := PySem.F.called_set.init.bind (.ref s.heap.objs.size)
      repeat (any_goals (first | assumption | wp_step))
      refine codeAny_mono (codeAny_call_builtin (R := wants (fun r sx => r = .none ∧ ∃ hp k, sx = { s with heap := hp, toks := k } ∧ hp.SetOf (PySem.strKind prog w) s.heap.objs.size (fun t => ts.any (· == t)) (ddup ts).length ∧
          (∀ b o, b < s.heap.objs.size → s.heap.get? b = some o → hp.get? b = some o)) E) PySem.F.called_set.init.plain PySem.F.entry_set_init (check_set_init_1 ty1 ?_)) fun r2 s2 hr2 => ?_
      · obtain ⟨⟨oc, od, dt, os⟩, o1, o2, o3, o4⟩ := isl
        simp only at o2 o4
        subst o2; subst o4
        have lat : (s.heap.push { cls := .type "set", dict := none, data := .set #[] 0 (.fresh 0 0 led) }).get? l = some { cls := .type "list", dict := od, data := .seq us o3, slots := os } := Heap.get?_push_of_some _ o1
        have j1 := PySem.F.sub_list_set
        have j2 := PySem.F.sub_list_frozenset
        have j3 : (Value.type "list" == Value.type "dict") = false := by decide
        have isl1 : (s.heap.push { cls := .type "set", dict := none, data := .set #[] 0 (.fresh 0 0 led) }).IsList l us := ⟨_, lat, rfl, o3, rfl⟩
        unfold Builtin.«set.__init__» noKeywords Builtin.Frozenset.updateFrom
        generalize eit : pyIter = itf
        wp_walk
        subst eit
        refine wpAny_pyIter_list isl1 (wpAny_bind (wpAny_runValue ?_))
        have lt : l < s.heap.objs.size := Heap.lt_size o1
        have calm3 : A.in1.in1.in1.handled = none := by simp [calm]
        have ne1 : l ≠ (s.heap.push { cls := .type "set", dict := none, data := .set #[] 0 (.fresh 0 0 led) }).objs.size := by rw [Heap.size_push]; exact Nat.ne_of_lt (Nat.lt_succ_of_lt lt)
        have nin : s.heap.objs.size ∉ [(s.heap.push { cls := .type "set", dict := none, data := .set #[] 0 (.fresh 0 0 led) }).objs.size, l] := by
          rw [Heap.size_push]; intro q
          rcases List.mem_cons.mp q with q | q
          · exact absurd q (Nat.ne_of_lt (Nat.lt_succ_self _))
          · exact absurd (List.mem_singleton.mp q) (Nat.ne_of_gt lt)
        have sz : ts.length = us.size := by rw [← StrsAre.len_eq are, Array.length_toList]
        refine lay_strs ((Walks.list calm3 _ l ne1 us).toS) nin sz (by omega) (fun i v hv => SS.strs_at are i v (by rw [Array.getElem?_toList]; exact hv)) _ ⟨⟨_, Heap.get?_push_size _ rfl, rfl, rfl⟩, (isl1.push _)⟩ ?emp ?fin
        case emp =>
          exact PyProof.Rows.SetOf_congr ((PyProof.Rows.setObjOf_fresh (knd := PySem.strKind prog w) led).setOf (Heap.get?_push_of_some _ at1) (by unfold scanBound; omega)) (fun _ => rfl) rfl
        case fin =>
          intro s9 mv fin9
          obtain ⟨h9, g9, d9, k9, os9⟩ := s9
          have eg : g9 = s.gens := mv.gens
          have ed : d9 = s.drawn := mv.drawn
          have eo : os9 = s.os := mv.os
          subst eg; subst ed; subst eo
          show wpAny _ _ _ _ _ _
          refine wpAny_pure (show wpAny _ _ (ret Value.none) _ _ _ from wpAny_pure ⟨rfl, h9, k9, rfl, fin9, fun b o hb e => ?_⟩)
          refine mv.heap b o ?_ (Heap.get?_push_of_some _ (Heap.get?_push_of_some _ e))
          rw [Heap.size_push]; intro q
          rcases List.mem_cons.mp q with q | q
          · exact Nat.ne_of_lt hb q
          · exact Nat.ne_of_lt (Nat.lt_succ_of_lt hb) (List.mem_singleton.mp q)
      · cases r2 with
        | error e => exact hr2
        | ok fl2 =>
          cases fl2 with
          | ret r =>
            obtain ⟨rfl, hp, k, rfl, z1, z2⟩ := hr2
            repeat (any_goals (first | assumption | wp_step))
            exact told _ _ z1 z2
          | _ => exact hr2.elim
    | _ => exact hr1.elim
end
section
variable {X : Cx} {U : WX}
def tLenSetS (K : PySem.W.Frag) (ta : TE) : TE := fun σ H Q => ta σ H fun x H1 => ∃ (l : Addr) (xs : List Str), x = .ref l ∧ SqL K H1 l (xs.map V.str) ∧ xs.length < 64 ∧ Q (.int ((ddup xs).length : Nat)) H1
theorem pe_lensetS {a : Expr} {ta : TE} {p p2 q pos : Pos} (hc : X.calm = true) (hg : Gl X "len") (hm : X.mg "len" = none) (hg2 : Gl X "set") (hm2 : X.mg "set" = none) (ha : PE X a ta)
    (na : starEach [a] X.env = (false, eval a X.env) :: starEach [] X.env := by rfl) : PE X (.Call (.Name "len" p) [.Call (.Name "set" p2) [a] [] q] [] pos) (tLenSetS X.K ta) := by
  refine ⟨fun pins s σ H Q I h => Call_ (ld_blt I hg hm PySem.boot_len (PyProof.Rows.callWith_builtin1 (PyProof.Rows.args_cons (Call_ (ld_blt I hg2 hm2 PyProof.Rows.boot_set ?_)) rfl) rfl rfl))⟩
  refine PyProof.Rows.callWith_type1 (PyProof.Rows.args_cons (thn (ha.run pins s σ H _ I h) fun v s1 ⟨x, H1, I1, r1, q1⟩ => PyProof.Rows.args_nil ?_) na) na rfl
  obtain ⟨l, xs, rfl, hq, h1, q1⟩ := q1
  cases r1
  obtain ⟨its, r, pl, hz⟩ := I1.list hq
  have few : xs.length + 1 < scanBound := by unfold scanBound; omega
  refine call_set_texts (I1.ok.hd hc) pl.isList (by simpa using strsAre_of r) few fun hp k hS hk => PyProof.Rows.args_nil ?_
  obtain ⟨o, es, ep, t, ho, hex, hd, _, _, _, hf, hn⟩ := hS
  have I2 : Inv X pins σ H1 { s1 with heap := hp, toks := k } := I1.kept fun b o e => hk b o (Heap.lt_size e) e
  have small : (ddup xs).length ≤ xs.length := sub_len (ddup_nodup xs) fun a ha => ddup_mem.mp ha
  exact call_len_set ho hex hd hf (by rw [hn] <;> omega) ⟨.int ((ddup xs).length : Nat), H1, I2.tok _, ⟨_, by rw [hn]⟩, q1⟩
end
end Vd

/-! Val21: len(set(xs)) of texts or of tuples. -/
namespace Vd
open L2 PyProof.Rows PySem PySem.Spec
section
variable {X : Cx} {U : WX}
def pLenSetS : W → R W
  | .dat (.list ds) => match allS ds with
    | some ys => if ys.length < 64 then .ok (wI (ddup ys).length) else .no
    | none => .no
  | _ => .no
theorem ve_lensetS {e : Expr} {f : Rho → R W} {p p2 pos pos2 : Pos} (hc : X.calm = true) (hu : X.A.units + 65 < cLine) (hm : X.mg "len" = none) (hm2 : X.mg "set" = none) (he : VE X U e f) (hg : Gl X "len" := by rfl) (hg2 : Gl X "set" := by rfl)
    (hs : starEach [e] X.env = (false, eval e X.env) :: starEach [] X.env := by rfl) : VE X U (.Call (.Name "len" p) [.Call (.Name "set" p2) [e] [] pos2] [] pos) (f1 pLenSetS f) := by
  refine PE.imp (pe_lensetS hc hg hm hg2 hm2 he hs) fun σ H Q ⟨B, ρ, F, k, q⟩ => ?_
  unfold f1 at q
  rw [run_bind] at q
  refine ⟨B, ρ, F, k, run_mono q (fun w hw q v F1 H1 e1 r1 => ?_) fun _ q => q⟩
  clear hw
  unfold pLenSetS at q
  split at q
  · split at q
    · rename_i ys hys
      obtain ⟨hl, q⟩ := run_if q
      obtain ⟨l, xs, rfl, h1, h2⟩ := r1
      have e2 := allS_rep h2 hys
      subst e2
      exact ⟨l, ys, rfl, .of (e1.sub _ _ h1), hl, q _ _ _ e1 rfl⟩
    · exact q.elim
  · exact q.elim
end
theorem pLenSetS_R (l : List (List Nat)) (h : l.length < 64) : pLenSetS (.dat (.list (l.map pR))) = .ok (wI (ddup l).length) := by
  have e : allS (l.map pR) = some (l.map S) := by
    induction l with
    | nil => rfl
    | cons a l ih => simp only [List.map_cons]; show (allS (l.map pR)).map _ = _; rw [ih (by simp at h; omega)]; rfl
  show (match allS (l.map pR) with | some ys => if ys.length < 64 then R.ok (wI (ddup ys).length) else .no | none => .no) = _
  rw [e]
  simp only [List.length_map]
  rw [if_pos h]
  have : ∀ l : List (List Nat), (ddup (l.map S)).length = (ddup l).length := by
    intro l
    induction l with
    | nil => rfl
    | cons a l ih =>
      have hh : (S a ∈ l.map S) ↔ a ∈ l := by
        rw [List.mem_map]
        constructor
        · rintro ⟨c, hc, e⟩; exact (S_inj.mp e) ▸ hc
        · intro h; exact ⟨a, h, rfl⟩
      simp only [List.map_cons, ddup]
      by_cases c : a ∈ l
      · rw [if_pos c, if_pos (hh.mpr c)]; exact ih
      · rw [if_neg c, if_neg (fun q => c (hh.mp q))]; simp only [List.length_cons, ih]
  rw [this]
end Vd

/-! Val28: sorted(set(text)). -/
namespace Vd
open L2 PyProof.Rows PySem PySem.Spec
section
variable {prog : Program} {w : World}
/-- the payload holds the texts l, each once, and can be walked -/
structure TxR (P : Program) (w : World) (D : Froz.SD) (l : List Str) : Prop where
  ok : Froz.TxOk P w D l
  nd : l.Nodup
  ris : Ris D.2.2.place.toList
  led : w.params.followText "set-order" = true ∨ D.2.2.led = true
theorem tail_ris {ep : Nat} {es1 : Array (Int × Value)} {t2 : SetTable} {wd : Bool} (h : Ris t2.place.toList) : Ris (Froz.tailTx ep es1 t2 wd).2.2.place.toList := by
  unfold Froz.tailTx
  by_cases c : (!wd && t2.tooFull) = true
  · rw [if_pos c]; exact relayAll_ris _ _ _
  · rw [if_neg c]; exact h
theorem tail_led {ep : Nat} {es1 : Array (Int × Value)} {t2 : SetTable} {wd : Bool} : (Froz.tailTx ep es1 t2 wd).2.2.led = t2.led := by
  unfold Froz.tailTx
  by_cases c : (!wd && t2.tooFull) = true
  · rw [if_pos c]; exact relayAll_led _ _ _
  · rw [if_neg c]
theorem TxR.add {D : Froz.SD} {l : List Str} {k : Str} (u : Tok) (R : TxR prog w D l) (hk : k ∉ l) : TxR prog w (Froz.addTx (hashStr w k) (.str k u) D) (k :: l) := by
  have h1 := layNew_ris D.2.2 D.1 (hashStr w k) (.str k u) R.ris
  have h2 := layNew_led D.2.2 D.1 (hashStr w k) (.str k u)
  refine ⟨Froz.add_ok u R.ok, List.nodup_cons.mpr ⟨hk, R.nd⟩, tail_ris ?_, R.led.imp id fun h => tail_led.trans ?_⟩
  · split <;> exact h1
  · split <;> exact h2.trans h
end
section
variable {prog : Program} {w : World} {A : Around} {E : Value → Shared → Prop} {s : Shared}
/-- a text that is there already -/
theorem add_there {a : Addr} {T : String} {D : Froz.SD} {l : List Str} {k : Str} {u : Tok} {Q : Bool → Shared → Prop} (ho : s.heap.get? a = some (Froz.sObj T D)) (F : Froz.TxOk prog w D l) (hk : k ∈ l) (hb : l.length < scanBound) (h : Q false s) :
    wpAny (model prog w) A (setAddHashed a (.str k u) (hashStr w k)) Q E s := by
  have key := Froz.is_str (P := prog) (w := w) k u
  have room : D.1.size < scanBound := by rw [F.sz]; exact hb
  unfold setAddHashed setAddHashedIn
  refine wpAny_holding (wpAny_bind (wpAny_setState_of ho rfl F.fit ?_))
  dsimp only
  rw [byScan_of rfl room F.el]
  simp only [↓reduceIte]
  unfold setAddByScan
  refine wpAny_bind (wpAny_bind (wpAny_rule (wpAny_bind (wpAny_setScan_of (knd := strKind prog w) key ho rfl F.fit F.el ?_))))
  obtain ⟨e, he, hi⟩ := (F.mem k).mp hk
  cases hf : List.findIdx? (fun e => (strKind prog w).is k e.2) D.1.toList with
  | none =>
    have := List.findIdx?_eq_none_iff.mp hf e he
    rw [hi] at this; cases this
  | some j =>
    dsimp only
    exact wpAny_pure (wpAny_pure h)
/-- the signs laid into the set, one by one -/
theorem lay_signs {R : Result → Shared → Prop} {it : Addr} {fp wr : List Addr} {G : Array GenState → Array GenState → Prop} {n : Nat} {P : Nat → Value → Prop} {St : Nat → Shared → Prop} (wk : WalksS prog w A.in1 it fp wr G n P St) {c : Addr} (out : c ∉ fp) {ts : List Str} (ln : ts.length = n) (rm : n + 1 < scanBound)
    (vl : ∀ i v, P i v → ∃ tk, v = .str (ts.getD i Str.empty) tk) (s0 : Shared) (st0 : St 0 s0) (D0 : Froz.SD) (o0 : s0.heap.get? c = some (Froz.sObj "set" D0)) (r0 : TxR prog w D0 [])
    (fin : ∀ s9 D m, Moved (c :: wr) G s0 s9 → s9.heap.get? c = some (Froz.sObj "set" D) → TxR prog w D m → (∀ t, t ∈ m ↔ t ∈ ts) → R (.ok (.ret .none)) s9) :
    codeAny (model prog w) A (.builtin "set.update.loop" ⟨[.ref c, .ref it], []⟩) R s0 := by
  have cw : c ∉ wr := fun q => out (wk.sub _ q)
  have up : ∀ b ∈ wr, b ∈ c :: wr := fun b hb => List.mem_cons_of_mem _ hb
  suffices H : ∀ (d i : Nat) (sa : Shared) (D : Froz.SD) (m : List Str), i + d = n → St i sa → sa.heap.get? c = some (Froz.sObj "set" D) → TxR prog w D m → (∀ t, t ∈ m ↔ t ∈ ts.take i) →
      (∀ s9 D m, Moved (c :: wr) G sa s9 → s9.heap.get? c = some (Froz.sObj "set" D) → TxR prog w D m → (∀ t, t ∈ m ↔ t ∈ ts) → R (.ok (.ret .none)) s9) → codeAny (model prog w) A (.builtin "set.update.loop" ⟨[.ref c, .ref it], []⟩) R sa from
    H n 0 s0 D0 [] (by omega) st0 o0 r0 (fun t => by simp) fin
  intro d
  induction d with
  | zero =>
    intro i sa D m hi sti ho hr hm done
    have e : i = n := by omega
    subst e
    have et : ts.take i = ts := List.take_of_length_le (by omega)
    rw [et] at hm
    refine codeAny_builtin PyProof.Rows.F.entry_set_update_loop ?_
    rw [Around.under_plainId PyProof.Rows.F.plain_set_update_loop _]
    refine wpAny_bind (wk.done sa _ _ sti fun s9 mv => ?_)
    exact wpAny_pure (done s9 D m (mv.mono up) (mv.heap c _ cw ho) hr hm)
  | succ d ih =>
    intro i sa D m hi sti ho hr hm done
    refine codeAny_builtin PyProof.Rows.F.entry_set_update_loop ?_
    rw [Around.under_plainId PyProof.Rows.F.plain_set_update_loop _]
    refine wpAny_bind (wk.item i sa _ _ (by omega) sti fun v sb pv stb mv => ?_)
    obtain ⟨tk, rfl⟩ := vl i v pv
    have hob : sb.heap.get? c = some (Froz.sObj "set" D) := mv.heap c _ cw ho
    refine wpAny_bind (wpAny_holding ?_)
    unfold setAdd
    refine wpAny_holding (wpAny_bind ((PySem.strKind prog w).pyHash (k := ts.getD i Str.empty) (strKind_is _ _ _ _) ?_))
    have few : m.length ≤ i := by
      have h1 := Bf.nodup_le hr.nd fun a ha => (hm a).mp ha
      rw [List.length_take] at h1
      omega
    have ex : ts.take (i + 1) = ts.take i ++ [ts.getD i Str.empty] := by
      rw [List.take_add_one, List.getD_eq_getElem?_getD, List.getElem?_eq_getElem (by omega)]; rfl
    generalize ts.getD i Str.empty = k at ex
    by_cases hk : k ∈ m
    · refine add_there (s := { sb with toks := sb.toks + 1 }) hob hr.ok hk (by omega) ?_
      refine wpAny_pure ⟨plainId_quiet PyProof.Rows.F.plain_set_update_loop _, ih (i + 1) _ D m (by omega) (wk.frame _ sb _ _ stb (Nat.le_succ _) fun b hb o e => e) hob hr (fun t => ?_) fun s9 D9 m9 mv9 ho9 hr9 hm9 => ?_⟩
      · rw [ex, List.mem_append, ← hm]
        exact ⟨.inl, fun h => h.elim id fun q => by rw [List.mem_singleton.mp q]; exact hk⟩
      · exact done s9 D9 m9 (Moved.trans wk.gtrans ((mv.mono up).then_heap (Nat.le_succ _) fun b o hb e => e) mv9) ho9 hr9 hm9
    · refine Froz.add_x (s := { sb with toks := sb.toks + 1 }) hob hr.ok hk (by omega) ?_
      have same := Heap.SameBut.update sb.heap c (fun _ => Froz.sObj "set" (Froz.addTx (hashStr w k) (.str k tk) D))
      have away : ∀ b o, b ≠ c → sb.heap.get? b = some o → (sb.heap.update c (fun _ => Froz.sObj "set" (Froz.addTx (hashStr w k) (.str k tk) D))).get? b = some o := fun b o hb e => by rw [same.2 b hb]; exact e
      refine wpAny_pure ⟨plainId_quiet PyProof.Rows.F.plain_set_update_loop _, ih (i + 1) _ _ (k :: m) (by omega) (wk.frame _ sb _ _ stb (Nat.le_succ _) fun b hb o e => away b o (fun q => out (q ▸ hb)) e) (Froz.get_upd _ hob rfl) (hr.add tk hk) (fun t => ?_) fun s9 D9 m9 mv9 ho9 hr9 hm9 => ?_⟩
      · rw [ex, List.mem_append, ← hm, List.mem_cons, List.mem_singleton]; exact Or.comm
      · exact done s9 D9 m9 (Moved.trans wk.gtrans ((mv.mono up).then_heap (Nat.le_succ _) fun b o hb e => away b o (fun q => hb (q ▸ List.mem_cons_self)) e) mv9) ho9 hr9 hm9
set_option maxHeartbeats 6400000 in
/-- set(x) of a text -/
theorem call_set_text {x : Str} {u : Tok} {Q : Value → Shared → Prop} (calm : A.handled = none) (few : x.cps.size + 1 < scanBound)
    (told : ∀ (hp : Heap) (k : Nat) (D : Froz.SD) (m : List Str), hp.get? s.heap.objs.size = some (Froz.sObj "set" D) → TxR prog w D m → (∀ t, t ∈ m ↔ t ∈ x.cps.toList.map fun c => (⟨#[c]⟩ : Str)) → (∀ b o, s.heap.get? b = some o → hp.get? b = some o) → Q (.ref s.heap.objs.size) { s with heap := hp, toks := k }) :
    wpAny (model prog w) A (call (.type "set") [.str x u]) Q E s := by
  obtain ⟨m0, m1, m2⟩ := PySem.F.called_set.mro
  have f1 := PySem.F.called_set.made
  have f2 := PySem.F.called_set.sub
  refine wpAny_call (codeAny_of_tree (show wpAny _ _ (callAny (.type "set") _) _ _ _ from wpAny_pure ⟨Code.quiet_builtin _ (by decide +kernel), codeAny_builtin PySem.F.entry_type_call ?_⟩))
  rw [Around.under_plain (weight_type_call_type "set" [.str x u] []) rfl]
  have f3 := PySem.F.called_set.notType
  have f4 := PySem.F.called_set.canCreate
  have f5 := PySem.F.typeCall_set_1 (.str x u)
  repeat (any_goals (first | assumption | wp_step))
  refine codeAny_mono (code_set_led1 (.str x u) (E := E) (Q₁ := fun y sx => y = .ref s.heap.objs.size ∧ sx = { s with heap := s.heap.push { cls := .type "set", dict := none, data := .set #[] 0 (.fresh 0 0 (!w.params.followText "set-order")) } }) ⟨rfl, rfl⟩) fun r1 s1 hr1 => ?_
  cases r1 with
  | error e => exact hr1
  | ok fl =>
    cases fl with
    | ret y =>
      obtain ⟨rfl, rfl⟩ := hr1
      obtain ⟨led, hled, r0⟩ : ∃ led : Bool, (!w.params.followText "set-order") = led ∧ TxR prog w (#[], 0, .fresh 0 0 led) [] := by
        refine ⟨_, rfl, Froz.TxOk.nil (by rfl), List.nodup_nil, List.Pairwise.nil, ?_⟩
        cases hq : w.params.followText "set-order"
        · exact .inr (by simp [SetTable.fresh])
        · exact .inl rfl
      rw [hled]
      clear hled
      have at1 : (s.heap.push { cls := .type "set", dict := none, data := .set #[] 0 (.fresh 0 0 led) }).get? s.heap.objs.size = some { cls := .type "set", dict := none, data := .set #[] 0 (.fresh 0 0 led) } := Heap.get?_push_size _ rfl
      have ty1 : Shared.TypeIs { s with heap := s.heap.push { cls := .type "set", dict := none, data := .set #[] 0 (.fresh 0 0 led) } } (.ref s.heap.objs.size) "set" := ⟨_, at1, rfl⟩
      have g1 := PySem.F.called_set.init.lookup
      have g2 := PySem.F.called_set.init.bind (.ref s.heap.objs.size)
      repeat (any_goals (first | assumption | wp_step))
      refine codeAny_mono (codeAny_call_builtin (R := wants (fun r sx => r = .none ∧ ∃ hp k D m, sx = { s with heap := hp, toks := k } ∧ hp.get? s.heap.objs.size = some (Froz.sObj "set" D) ∧ TxR prog w D m ∧ (∀ t, t ∈ m ↔ t ∈ x.cps.toList.map fun c => (⟨#[c]⟩ : Str)) ∧
          (∀ b o, s.heap.get? b = some o → hp.get? b = some o)) E) PySem.F.called_set.init.plain PySem.F.entry_set_init (check_set_init_1 ty1 ?_)) fun r2 s2 hr2 => ?_
      · have j1 := PySem.F.sub_str_set
        have j2 := PySem.F.sub_str_frozenset
        have j3 : (Value.type "str" == Value.type "dict") = false := by decide
        unfold Builtin.«set.__init__» noKeywords Builtin.Frozenset.updateFrom
        generalize eit : pyIter = itf
        wp_walk
        subst eit
        refine wpAny_pyIter_str fun o St W st0 => wpAny_bind (wpAny_runValue ?_)
        have calm3 : A.in1.in1.in1.handled = none := by simp [calm]
        have nin : s.heap.objs.size ∉ [(s.heap.push { cls := .type "set", dict := none, data := .set #[] 0 (.fresh 0 0 led) }).objs.size] := by
          rw [Heap.size_push]; intro q
          exact absurd (List.mem_singleton.mp q) (Nat.ne_of_lt (Nat.lt_succ_self _))
        refine lay_signs (W _ calm3).toS nin (ts := x.cps.toList.map fun c => (⟨#[c]⟩ : Str)) (by simp) few (fun i v hv => ?_) _ st0 (#[], 0, .fresh 0 0 led) (Heap.get?_push_of_some _ at1) r0 ?fin
        · obtain ⟨c, t, hc, rfl⟩ := hv
          refine ⟨t, ?_⟩
          rw [List.getD_eq_getElem?_getD, List.getElem?_map, Array.getElem?_toList, hc]; rfl
        case fin =>
          intro s9 D m mv hD hr hm
          obtain ⟨h9, g9, d9, k9, os9⟩ := s9
          have eg : g9 = s.gens := mv.gens
          have ed : d9 = s.drawn := mv.drawn
          have eo : os9 = s.os := mv.os
          subst eg; subst ed; subst eo
          show wpAny _ _ _ _ _ _
          refine wpAny_pure (show wpAny _ _ (ret Value.none) _ _ _ from wpAny_pure ⟨rfl, h9, k9, D, m, rfl, hD, hr, hm, fun b o e => ?_⟩)
          have hb := Heap.lt_size e
          refine mv.heap b o ?_ (Heap.get?_push_of_some _ (Heap.get?_push_of_some _ e))
          rw [Heap.size_push]; intro q
          rcases List.mem_cons.mp q with q | q
          · exact Nat.ne_of_lt hb q
          · exact Nat.ne_of_lt (Nat.lt_succ_of_lt hb) (List.mem_singleton.mp q)
      · cases r2 with
        | error e => exact hr2
        | ok fl2 =>
          cases fl2 with
          | ret r =>
            obtain ⟨rfl, hp, k, D, m, rfl, z1, z2, z3, z4⟩ := hr2
            repeat (any_goals (first | assumption | wp_step))
            exact told _ _ _ _ z1 z2 z3 z4
          | _ => exact hr2.elim
    | _ => exact hr1.elim
end
end Vd

/-! Val29: sorted(set(text)), as an expression. -/
namespace Vd
open L2 PyProof.Rows PySem PySem.Spec
open PySem.W (EachIs AllAlike Sortable dataLe alike)
def isS (v : Value) (d : Pd) : Prop := ∃ y t, v = .str y t ∧ d = .str y
section
variable {prog : Program} {w : World} {A : Around} {E : Value → Shared → Prop} {s : Shared}
/-- the members of a payload are its texts, in some order -/
theorem each_of : ∀ {vs : List Value} {es : List Value}, vs.Perm es → (∀ v ∈ es, ∃ y t, v = .str y t) → ∃ ys : List Str, EachIs isS vs (ys.map .str) ∧ ∀ v ∈ vs, ∃ y ∈ ys, ∃ t, v = .str y t := by
  intro vs es p h
  have h' : ∀ v ∈ vs, ∃ y t, v = .str y t := fun v hv => h v (p.mem_iff.mp hv)
  clear p h
  induction vs with
  | nil => exact ⟨[], .nil, by simp⟩
  | cons v vs ih =>
    obtain ⟨y, t, rfl⟩ := h' v List.mem_cons_self
    obtain ⟨ys, h1, h2⟩ := ih fun u hu => h' u (List.mem_cons_of_mem _ hu)
    refine ⟨y :: ys, .cons ⟨y, t, rfl, rfl⟩ h1, fun u hu => ?_⟩
    rcases List.mem_cons.mp hu with e | hu
    · exact ⟨y, List.mem_cons_self, t, e⟩
    · obtain ⟨z, hz, q⟩ := h2 u hu
      exact ⟨z, List.mem_cons_of_mem _ hz, q⟩
theorem each_strs : ∀ {vs : List Value} {ys : List Str}, EachIs isS vs (ys.map .str) → ys = vs.map fun v => match v with | .str y _ => y | _ => Str.empty
  | [], [], _ => rfl
  | v :: vs, y :: ys, h => by
    cases h with
    | cons h1 h2 =>
      obtain ⟨z, t, rfl, e⟩ := h1
      have e := PyData.str.inj e
      subst e
      rw [List.map_cons, ← each_strs h2]
theorem perm_fill {α : Type} [DecidableEq α] : ∀ {m L : List α}, m.Nodup → (∀ a ∈ m, a ∈ L) → L.length ≤ m.length → m.Perm L
  | [], L, _, _, h => by
    have : L = [] := List.length_eq_zero_iff.mp (by simpa using h)
    rw [this]
  | a :: m, L, nd, sub, h => by
    rw [List.nodup_cons] at nd
    have ha := sub a List.mem_cons_self
    have hl := List.length_erase_of_mem ha
    rw [List.length_cons] at h
    exact (List.Perm.cons a (perm_fill nd.2 (fun x hx => (List.mem_erase_of_ne (by rintro rfl; exact nd.1 hx)).mpr (sub x (List.mem_cons_of_mem _ hx))) (by omega))).trans (List.perm_cons_erase ha).symm
def txt (v : Value) : Str := match v with | .str y _ => y | _ => Str.empty
theorem TxR.vals {D : Froz.SD} {m : List Str} (R : TxR prog w D m) : (∀ v ∈ D.1.toList.map (·.2), ∃ y t, v = Value.str y t) ∧ ((D.1.toList.map (·.2)).map txt).Perm m := by
  have hv : ∀ e ∈ D.1.toList, ∃ y t, e.2 = Value.str y t := fun e he => by
    obtain ⟨⟨k, h1, _⟩, _⟩ := R.ok.el e he
    have h1 : Value.isStrOf k e.2 = true := h1
    cases q : e.2 with
    | str y t => exact ⟨y, t, rfl⟩
    | _ => rw [q] at h1; cases h1
  refine ⟨fun v h => by obtain ⟨e, he, rfl⟩ := List.mem_map.mp h; exact hv e he, ?_⟩
  have hm : ∀ t, t ∈ m ↔ t ∈ (D.1.toList.map (·.2)).map txt := fun k => by
    rw [R.ok.mem k]
    constructor
    · rintro ⟨e, he, q⟩
      obtain ⟨y, t, hy⟩ := hv e he
      have q : Value.isStrOf k e.2 = true := q
      rw [hy] at q
      have : y = k := by simpa [Value.isStrOf] using q
      exact List.mem_map.mpr ⟨e.2, List.mem_map_of_mem he, by rw [hy]; exact this⟩
    · intro h
      obtain ⟨v, h1, h2⟩ := List.mem_map.mp h
      obtain ⟨e, he, rfl⟩ := List.mem_map.mp h1
      obtain ⟨y, t, hy⟩ := hv e he
      refine ⟨e, he, ?_⟩
      rw [hy] at h2 ⊢
      have h2 : y = k := h2
      rw [h2]; exact Froz.is_str k t
  have hlen : ((D.1.toList.map (·.2)).map txt).length = m.length := by rw [List.length_map, List.length_map, Array.length_toList]; exact R.ok.sz
  exact (perm_fill R.nd (fun a ha => (hm a).mp ha) (by omega)).symm
/-- a new list of the set's texts, rising -/
theorem sorted_setX {a : Addr} {D : Froz.SD} {m : List Str} {Q : Value → Shared → Prop} (ho : s.heap.get? a = some (Froz.sObj "set" D)) (R : TxR prog w D m) (hh : A.handled = none) (few : m.length < 64) (hu : A.units + 64 < cLine)
    (hQ : ∀ s' p (out : Array Value) (c : Nat) (ys : List Str), (∀ b o, s.heap.get? b = some o → s'.heap.get? b = some o) → s'.gens = s.gens → s'.os = s.os → s.heap.objs.size ≤ p →
      s'.heap.get? p = some (seqObj "list" out c) → ys.Perm m → EachIs isS out.toList (sortD (ys.map .str)) → Q (.ref p) s') :
    wpAny (model prog w) A (call (.builtin "sorted") [.ref a]) Q E s := by
  have hsz : D.1.size = m.length := R.ok.sz
  refine Calls.call_function_entry kind_sorted plain_sorted entry_sorted (args_sorted1 _) ?_
  unfold Builtin.«sorted»
  refine wpAny_bind (m := checkCount "sorted" 1 1 _) (wpAny_pure ?_)
  refine wpAny_bind (collect_set (A := A.in1) hh ⟨_, ho, rfl, rfl⟩ R.ok.fit (by unfold scanBound; omega) R.ris R.led fun s1 vs keep hz g1 o1 pm => ?_)
  obtain ⟨v1, v2⟩ := R.vals
  obtain ⟨ys, e1, _⟩ := each_of pm v1
  have hys : ys.Perm m := by
    have : ys = vs.map txt := each_strs e1
    rw [this]
    exact (pm.map txt).trans v2
  have hlen : vs.length = ys.length := by rw [each_strs e1, List.length_map]
  have hyl := hys.length_eq
  have hL : vs.length ≤ sizeLine := by rw [sizeLine_eq]; omega
  refine wpAny_bind (wpAny_newList ?_ hL)
  have hoL : (s1.heap.push (seqObj "list" vs.toArray 0)).get? s1.heap.objs.size = some (seqObj "list" vs.toArray 0) := Heap.get?_push_size _ rfl
  have er : EachIs (fun v b => ∃ as, Reads (PySem.W.sortingHeap (s1.heap.push (seqObj "list" vs.toArray 0)) s1.heap.objs.size vs) v (id b) as) vs (ys.map .str) :=
    e1.mono fun v d ⟨y, t, h1, h2⟩ => by subst h1; subst h2; exact ⟨[], .str y t⟩
  have hal : AllAlike (ys.map .str) := fun d hd d' hd' => by
    obtain ⟨y, _, rfl⟩ := List.mem_map.mp hd
    obtain ⟨y', _, rfl⟩ := List.mem_map.mp hd'
    rfl
  have hal' : AllAlike ((ys.map .str).map id) := by rw [List.map_id]; exact hal
  have hk : Sortable (ys.map .str) := .inr fun d hd => by
    obtain ⟨y, _, rfl⟩ := List.mem_map.mp hd
    exact ⟨by simp, by simp⟩
  refine wpAny_bind (wpAny_holding (wpAny_call_entry PyProof.Rows.slot_list_sort ⟨_, hoL, rfl⟩ PyProof.Rows.entry_list_sort
    (PySem.W.list_sort_vals (s := { s1 with heap := s1.heap.push (seqObj "list" vs.toArray 0) }) (κ := PySem.W.dataKind (PySem.W.sortingHeap (s1.heap.push (seqObj "list" vs.toArray 0)) s1.heap.objs.size vs) ((ys.map .str).map id)) hoL
      (PySem.W.SortsAt.data (s := { s1 with heap := PySem.W.sortingHeap (s1.heap.push (seqObj "list" vs.toArray 0)) s1.heap.objs.size vs }) (PySem.W.each_map (R := fun v d => ∃ as, Reads (PySem.W.sortingHeap (s1.heap.push (seqObj "list" vs.toArray 0)) s1.heap.objs.size vs) v d as) id er) hal' (by rw [List.map_id]; exact hk) (fun d hd => by
        rw [List.map_id] at hd
        obtain ⟨y, _, rfl⟩ := List.mem_map.mp hd
        show A.units + 1 + 1 + 0 < cLine
        omega)) hL ⟨_, rfl, ?_⟩) (PyProof.Rows.args_list_sort _)))
  have eo := PySem.W.sortVals_data (enc := id) (R := isS) false e1 er hal'
  generalize hout : PySem.W.sortVals (PySem.W.dataKind (PySem.W.sortingHeap (s1.heap.push (seqObj "list" vs.toArray 0)) s1.heap.objs.size vs) ((ys.map .str).map id)) false vs vs = out at *
  obtain ⟨c, hc⟩ := PyProof.Rows.sortedHeap_at (vs := vs) (out := out.toArray) hoL
  refine wpAny_pure ⟨_, rfl, hQ _ s1.heap.objs.size out.toArray c ys (fun b u e => ?_) g1 o1 hz hc hys (show EachIs isS out.toArray.toList _ from (List.toList_toArray (as := out)).symm ▸ eo)⟩
  have q := keep b u e
  have hlt := Heap.lt_size q
  rw [PyProof.Rows.sortedHeap_old (Nat.ne_of_lt hlt) (by rw [PyProof.Rows.size_push']; exact Nat.lt_succ_of_lt hlt)]
  exact Heap.get?_push_of_some _ q
end
section
variable {X : Cx} {U : WX}
/-- the set of these texts at a -/
def SetXO (P : Program) (w : World) (a : Addr) (m : List Str) : HO := .ext fun h => ∃ D, h.get? a = some (Froz.sObj "set" D) ∧ TxR P w D m
theorem setXO_new {P : Program} {w : World} {H : Hp} {h : Heap} {a : Addr} {m : List Str} (R : ∃ D, h.get? a = some (Froz.sObj "set" D) ∧ TxR P w D m) : ObjOk P w H h a (SetXO P w a m) := by
  have ⟨D, ho, r⟩ := R
  exact ⟨R, ⟨_, ho⟩, fun h1 h2 ⟨D', ho', r'⟩ k => ⟨D', k _ ho', r'⟩⟩
def sgn (x : Str) : List Str := x.cps.toList.map fun c => ⟨#[c]⟩
def rSetX (P : Program) (w : World) : List V → Hp → VK → Prop := fun xs H Q => ∃ x : Str, xs = [V.str x] ∧ x.cps.size < 64 ∧ ∀ a m, H a = none → m.Nodup → (∀ t, t ∈ m ↔ t ∈ sgn x) → Q (.ref a) (upd H a (SetXO P w a m))
theorem cr_setX (hc : X.calm = true) : CallR X (.type "set") (rSetX X.prog X.w) := by
  intro pins s σ H xs us Q I r h
  obtain ⟨x, rfl, hx, q⟩ := h
  obtain ⟨u, rfl, rx⟩ := vals1 r
  obtain ⟨t, rfl⟩ := rx
  have hn : H s.heap.objs.size = none := I.hok.fresh (Nat.le_refl _)
  refine call_set_text (I.ok.hd hc) (by unfold scanBound; omega) fun hp k D m ho R hm keep => ?_
  exact ⟨.ref s.heap.objs.size, upd H s.heap.objs.size (SetXO X.prog X.w s.heap.objs.size m), I.laid (t' := k) keep (Nat.le_refl _) (setXO_new ⟨D, ho, R⟩), rfl, q _ m hn R.nd hm⟩
def rSortX (P : Program) (w : World) : List V → Hp → VK → Prop := fun vs H Q => ∃ (a : Addr) (m : List Str), vs = [V.ref a] ∧ H a = some (SetXO P w a m) ∧ m.length < 64 ∧
  ∀ (ys : List Str) (p : Addr) (zs : List V), ys.Perm m → H p = none → DsL (fun _ => none) (sortD (ys.map .str)) zs → Q (.ref p) (upd H p (.lst zs))
theorem cr_sortX (hc : X.calm = true) (hu : X.A.units + 64 < cLine) : CallR X (.builtin "sorted") (rSortX X.prog X.w) := by
  intro pins s σ H vs us Q I r h
  obtain ⟨a, m, rfl, ha, few, q⟩ := h
  obtain ⟨D, ho, R⟩ := (I.hok a _ ha).1
  rw [Vals.ref1 r]
  refine sorted_setX ho R (I.ok.hd hc) few hu fun s' p out c ys k g o hp hg hys hout => ?_
  obtain ⟨zs, hz, hv⟩ := each_rv (F := fun _ => none) (hout.mono fun v d ⟨y, t, h1, h2⟩ => ⟨V.str y, ⟨t, h1⟩, by rw [h2]; rfl⟩)
  have hlen : zs.length ≤ sizeLine := by
    rw [hz.len]; unfold sortD; rw [List.length_mergeSort, List.length_map, hys.length_eq, sizeLine_eq]; omega
  have hn : H p = none := I.hok.fresh hp
  have J : Inv X pins σ (upd H p (.lst zs)) { s with heap := s'.heap, gens := s'.gens, drawn := s'.drawn, toks := s'.toks } :=
    I.call (ch := []) (Un.laid k hp hn) (I.hok.laid k hp ⟨hlen, out.toList, c, hv, hg⟩) (by rw [g]; exact I.bare) (fun _ z => nomatch z)
  have e : s' = { s with heap := s'.heap, gens := s'.gens, drawn := s'.drawn, toks := s'.toks } := by
    cases s'
    cases s
    cases o
    rfl
  rw [e]
  exact ⟨.ref p, _, J, rfl, q ys p zs hys hn hz⟩
/-! ### the expression -/
theorem strLt (a b : Str) : leD (.str a) (.str b) = !decide (b.cps.toList < a.cps.toList) := by
  show (!PySem.W.dataLt (.str b) (.str a)) = _
  rw [PySem.W.dataLt_str]
theorem strLe_anti {a b : Str} (h : leD (.str a) (.str b) = true) (k : leD (.str b) (.str a) = true) : a = b := by
  rw [strLt] at h k
  have h1 : ¬ b.cps.toList < a.cps.toList := by simpa using h
  have h2 : ¬ a.cps.toList < b.cps.toList := by simpa using k
  have := List.le_antisymm (show a.cps.toList ≤ b.cps.toList from h1) (show b.cps.toList ≤ a.cps.toList from h2)
  cases a; cases b
  simp at this; simp [this]
theorem strLe_trans (a b c : Str) (h : leD (.str a) (.str b) = true) (k : leD (.str b) (.str c) = true) : leD (.str a) (.str c) = true := by
  rw [strLt] at h k ⊢
  have h1 : ¬ b.cps.toList < a.cps.toList := by simpa using h
  have h2 : ¬ c.cps.toList < b.cps.toList := by simpa using k
  have h3 : ¬ c.cps.toList < a.cps.toList := List.le_trans (show a.cps.toList ≤ b.cps.toList from h1) (show b.cps.toList ≤ c.cps.toList from h2)
  simpa using h3
theorem strLe_total (a b : Str) : (leD (.str a) (.str b) || leD (.str b) (.str a)) = true := by
  rw [strLt, strLt, Bool.or_eq_true]
  rcases List.le_total a.cps.toList b.cps.toList with h | h
  · left; have : ¬ b.cps.toList < a.cps.toList := h; simpa using this
  · right; have : ¬ a.cps.toList < b.cps.toList := h; simpa using this
noncomputable def srtS (l : List Str) : List Str := l.mergeSort fun a b => leD (.str a) (.str b)
theorem srt_str (l : List Str) : sortD (l.map .str) = (srtS l).map .str := by
  unfold sortD srtS
  rw [List.map_mergeSort]
  intro a _ b _; rfl
theorem sortedS_eq : ∀ {l m : List Str}, l.Pairwise (fun a b => leD (.str a) (.str b) = true) → m.Pairwise (fun a b => leD (.str a) (.str b) = true) → l.Perm m → l = m
  | [], m, _, _, p => by rw [List.nil_perm] at p; exact p.symm
  | a :: l, m, h1, h2, p => by
    cases m with
    | nil => exact absurd p.length_eq (by simp)
    | cons b m =>
      rw [List.pairwise_cons] at h1 h2
      have e : a = b := by
        rcases List.mem_cons.mp (p.mem_iff.mp List.mem_cons_self) with q | q
        · exact q
        · rcases List.mem_cons.mp (p.mem_iff.mpr List.mem_cons_self) with q2 | q2
          · exact q2.symm
          · exact strLe_anti (h1.1 b q2) (h2.1 a q)
      subst e
      rw [sortedS_eq h1.2 h2.2 (List.perm_cons a |>.mp p)]
theorem srtS_perm {l m : List Str} (p : l.Perm m) : srtS l = srtS m :=
  sortedS_eq (List.pairwise_mergeSort strLe_trans strLe_total l) (List.pairwise_mergeSort strLe_trans strLe_total m) (((List.mergeSort_perm l _).trans p).trans (List.mergeSort_perm m _).symm)
noncomputable def pSrtTxt : W → R W
  | .dat (.str x) => if x.cps.size < 64 then .ok (.dat (.list ((srtS (ddup (sgn x))).map .str))) else .no
  | _ => .no
theorem ve_srttxt {e : Expr} {f : Rho → R W} {p p2 pos pos2 : Pos} (hc : X.calm = true) (hu : X.A.units + 65 < cLine) (hm : X.mg "sorted" = none) (hm2 : X.mg "set" = none) (he : VE X U e f) (hg : Gl X "sorted" := by rfl) (hg2 : Gl X "set" := by rfl)
    (hs : starEach [e] X.env = (false, eval e X.env) :: starEach [] X.env := by rfl) (hpl : (backTo pos2 (starEach [] X.env)).any (·.1) = false := by rfl)
    (hs2 : starEach [.Call (.Name "set" p2) [e] [] pos2] X.env = (false, eval (.Call (.Name "set" p2) [e] [] pos2) X.env) :: starEach [] X.env := by rfl) (hpl2 : (backTo pos (starEach [] X.env)).any (·.1) = false := by rfl) :
    VE X U (.Call (.Name "sorted" p) [.Call (.Name "set" p2) [e] [] pos2] [] pos) (f1 pSrtTxt f) := by
  refine PE.imp (pe_callB (cr_sortX hc (by omega)) hg hm (by decide +kernel) (pa_cons (pe_callTy (cr_setX hc) hg2 hm2 PyProof.Rows.boot_set (pa_cons he pa_nil hs) (by decide) (by decide) hs hpl) pa_nil hs2) (by decide) (by decide) hs2 hpl2) fun σ H Q ⟨B, ρ, F, k, q⟩ => ?_
  unfold f1 at q
  rw [run_bind] at q
  refine ⟨B, ρ, F, k, run_mono q (fun w _ q v F1 H1 e1 r1 => ?_) fun _ q => q⟩
  unfold pSrtTxt at q
  split at q
  · rename_i x _
    obtain ⟨hx, q⟩ := run_if q
    have r1 : v = V.str x := r1
    subst r1
    refine ⟨x, rfl, hx, fun a m ha nd hm => ?_⟩
    have hlen : m.length < 64 := by
      have := Bf.nodup_le nd (m := sgn x) fun t ht => (hm t).mp ht
      have hs : (sgn x).length = x.cps.size := by unfold sgn; rw [List.length_map, Array.length_toList]
      omega
    refine ⟨a, m, rfl, upd_same, hlen, fun ys p zs hys hp hz => ?_⟩
    have ea : Ext F H F1 (upd H1 a (SetXO X.prog X.w a m)) := e1.trans (.newO e1.sub ha)
    have en := ea.trans (.new ea.sub hp (o := .lst zs))
    refine q _ _ _ en ⟨p, zs, rfl, upd_same, ?_⟩
    have hd : m.Perm (ddup (sgn x)) := (List.perm_ext_iff_of_nodup nd (ddup_nodup _)).mpr fun t => (hm t).trans ddup_mem.symm
    rw [srt_str, srtS_perm (hys.trans hd)] at hz
    exact DsL.mono (fun b o h => by cases h) _ _ hz
  · exact q.elim
end
end Vd

/-! Val30: text.count(text); the signs of a text, sorted. -/
namespace Vd
open L2 PyProof.Rows PySem PySem.Spec
section
variable {X : Cx} {U : WX}
def pCount (a : Str) (b : W) : R W := match strA b with
  | some y => .ok (wI (Txt.count a y))
  | none => .no
theorem ve_count {o e : Expr} {f g : Rho → R W} {apos pos : Pos} (ho : VB X U o f) (he : VB X U e g) (hs : starEach [e] X.env = [(false, eval e X.env)] := by rfl) (hbase : attributeBase o "count" X.env (eval o X.env) = eval o X.env := by rfl) (hline : (apos.endLine == pos.line) = true := by rfl) :
    VE X U (.Call (.Attribute o "count" apos) [e] [] pos) (fS1 pCount f g) := PE.imp (pe_m1 PySem.F.slot_str_count PySem.F.type_str_count mt_count ho he hs hbase hline) fun σ H Q q => m1_core (fun a b c => by unfold pCount; split <;> (intro h; cases h)) (fun F H z b y Q s rb q => by
  unfold pCount at q
  split at q
  · rename_i x hx
    have e := strA_rep rb hx
    subst e
    exact ⟨z, x, rfl, rfl, q _ F H (.refl s) rfl⟩
  · exact q.elim) q
end
theorem count_S (l : List Nat) (c : Nat) : Txt.count (S l) (S [c]) = (l.count c : Nat) := by
  have h : ∀ l : List Nat, PyProof.Rows.cnt c l = (l.count c : Nat) := by
    intro l
    induction l with
    | nil => rfl
    | cons n r ih =>
      rw [PyProof.Rows.cnt_cons, ih, List.count_cons]
      by_cases q : n = c <;> simp [q] <;> omega
  have := PyProof.Rows.count_cnt (S l) c
  rw [h] at this
  simpa [S] using this
theorem pCount_S (l : List Nat) (c : Nat) : pCount (S l) (wS [c]) = .ok (wI (l.count c : Nat)) := by
  show R.ok (wI (Txt.count (S l) (S [c]))) = _
  rw [count_S]
theorem sgn_S (l : List Nat) : sgn (S l) = l.map fun c => S [c] := by
  unfold sgn S; simp
theorem S1_inj {a b : Nat} (h : S [a] = S [b]) : a = b := by
  have := S_inj.mp h; simpa using this
/-- the unlike ones of some numbers, rising -/
def srtN (l : List Nat) : List Nat := (ddup l).mergeSort fun a b => decide (a ≤ b)
theorem srtN_mem {l : List Nat} {c : Nat} : c ∈ srtN l ↔ c ∈ l := by unfold srtN; rw [List.mem_mergeSort, ddup_mem]
theorem srtN_nodup (l : List Nat) : (srtN l).Nodup := (List.mergeSort_perm _ _).nodup_iff.mpr (ddup_nodup l)
theorem srtN_le (l : List Nat) : (srtN l).Pairwise (· ≤ ·) := by
  have := List.pairwise_mergeSort (le := fun a b : Nat => decide (a ≤ b)) (fun a b c h k => by simp at *; omega) (fun a b => by simp; omega) (ddup l)
  exact this.imp fun h => by simpa using h
theorem srtN_lt (l : List Nat) : (srtN l).Pairwise (· < ·) := by
  have h1 := srtN_le l
  have h2 := srtN_nodup l
  exact (h1.and h2).imp fun ⟨a, b⟩ => Nat.lt_of_le_of_ne a b
theorem lt_list_eq : ∀ {l m : List Nat}, l.Pairwise (· < ·) → m.Pairwise (· < ·) → (∀ c, c ∈ l ↔ c ∈ m) → l = m
  | [], [], _, _, _ => rfl
  | [], b :: m, _, _, h => by have := (h b).mpr List.mem_cons_self; simp at this
  | a :: l, [], _, _, h => by have := (h a).mp List.mem_cons_self; simp at this
  | a :: l, b :: m, h1, h2, h => by
    rw [List.pairwise_cons] at h1 h2
    have e : a = b := by
      rcases List.mem_cons.mp ((h a).mp List.mem_cons_self) with q | q
      · exact q
      · rcases List.mem_cons.mp ((h b).mpr List.mem_cons_self) with q2 | q2
        · exact q2.symm
        · have := h1.1 b q2; have := h2.1 a q; omega
    subst e
    rw [lt_list_eq h1.2 h2.2 fun c => ⟨fun hc => by
      rcases List.mem_cons.mp ((h c).mp (List.mem_cons_of_mem _ hc)) with q | q
      · subst q; have := h1.1 c hc; omega
      · exact q, fun hc => by
      rcases List.mem_cons.mp ((h c).mpr (List.mem_cons_of_mem _ hc)) with q | q
      · subst q; have := h2.1 c hc; omega
      · exact q⟩]
theorem srtS_S (l : List Nat) : srtS (ddup (sgn (S l))) = (srtN l).map fun c => S [c] := by
  have p : (ddup (sgn (S l))).Perm ((srtN l).map fun c => S [c]) := by
    refine (List.perm_ext_iff_of_nodup (ddup_nodup _) ?_).mpr fun t => ?_
    · rw [List.Nodup, List.pairwise_map]
      exact (srtN_nodup l).imp fun h e => h (S1_inj e)
    · rw [ddup_mem, sgn_S, List.mem_map, List.mem_map]
      constructor
      · rintro ⟨c, hc, rfl⟩; exact ⟨c, srtN_mem.mpr hc, rfl⟩
      · rintro ⟨c, hc, rfl⟩; exact ⟨c, srtN_mem.mp hc, rfl⟩
  rw [srtS_perm p]
  refine sortedS_eq (List.pairwise_mergeSort strLe_trans strLe_total _) ?_ (List.mergeSort_perm _ _)
  rw [List.pairwise_map]
  refine (srtN_lt l).imp fun {a b} h => ?_
  rw [strLt]
  have : ¬ (S [b]).cps.toList < (S [a]).cps.toList := by
    show ¬ [b] < [a]
    intro q
    rcases List.cons_lt_cons_iff.mp q with q | ⟨q, _⟩ <;> omega
  simpa using this
theorem pSrtTxt_S (l : List Nat) (h : l.length < 64) : pSrtTxt (wS l) = .ok (.dat (.list ((srtN l).map fun c => .str (S [c])))) := by
  show (if (S l).cps.size < 64 then R.ok (W.dat (.list ((srtS (ddup (sgn (S l)))).map .str))) else .no) = _
  rw [if_pos (by show l.toArray.size < 64; simpa using h), srtS_S, List.map_map]; rfl
end Vd

/-! Val31: a sign times nought or more. -/
namespace Vd
open L2 PyProof.Rows PySem PySem.Spec PySem.Calls
section
variable {X : Cx}
theorem op_strRep0 : OpR X (binaryOp .Mult) (fun x y H Q => ∃ c : Nat, x = .str (S [c]) ∧ y = .int 0 ∧ Q (.str (S [])) H) := by
  intro pins s σ H x y v u Q I rx ry h
  obtain ⟨c, rfl, rfl, q⟩ := h
  obtain ⟨t, rfl⟩ := rx
  obtain ⟨t2, rfl⟩ := ry
  refine PySem.P.mul_str (by rfl) (fun h _ => absurd h (by decide)) (fun h _ => absurd h (by decide)) ?_
  rw [if_pos (by decide)]
  exact ⟨by decide, ⟨.str (S []), H, I.tok _, ⟨_, rfl⟩, q⟩⟩
noncomputable def pMulY (a b : W) : R W := match a, b with
  | .dat (.str z), .dat (.int k) => if k = 0 then (match z.cps.toList with
    | [_] => .ok (.dat (.str (S [])))
    | _ => .no) else pMulX a b
  | _, _ => pMulX a b
theorem nx_pMulY : Nox pMulY := fun a b c => by
  unfold pMulY
  split
  · split
    · split <;> (intro h; cases h)
    · exact nx_pMulX _ _ _
  · exact nx_pMulX _ _ _
theorem op_pMulY : VOp X (binaryOp .Mult) pMulY := by
  obtain ⟨r, h1, h2⟩ := op_pMulX (X := X)
  refine ⟨_, OpR.or h1 op_strRep0, fun F H x y a b Q s ra rb q => ?_⟩
  unfold pMulY at q
  split at q
  · rename_i z k
    split at q
    · rename_i hk
      subst hk
      split at q
      · rename_i c hz
        cases ra
        cases rb
        have ez : z = S [c] := by
          apply TL.ext_tl
          exact hz
        subst ez
        exact .inr ⟨c, rfl, rfl, q _ F H (.refl s) rfl⟩
      · exact q.elim
    · exact .inl (h2 F H x y _ _ Q s ra rb q)
  · exact .inl (h2 F H x y _ _ Q s ra rb q)
/-- is not, of two truth values -/
theorem op_isNotB : OpR X (compareOp .IsNot) (fun x y H Q => ∃ b c : Bool, x = .bl b ∧ y = .bl c ∧ Q (.bl (b != c)) H) := by
  intro pins s σ H x y v u Q I rx ry h
  obtain ⟨b, c, rfl, rfl, q⟩ := h
  cases rx
  cases ry
  exact isnot_bool (fin_bl I q rfl)
def pIsB : W → W → R W
  | .dat (.bool b), .dat (.bool c) => .ok (bv (b != c))
  | _, _ => .no
theorem nx_pIsB : Nox pIsB := fun a b c => by unfold pIsB; split <;> (intro h; cases h)
theorem op_pIsB : VOp X (compareOp .IsNot) pIsB := by
  refine ⟨_, op_isNotB, fun F H x y a b Q s ra rb q => ?_⟩
  unfold pIsB at q
  split at q
  · cases ra; cases rb; exact ⟨_, _, rfl, rfl, q _ F H (.refl s) rfl⟩
  · exact q.elim
end
end Vd

/-! Val32: min of a list of alike rows. -/
namespace Vd
open L2 PyProof.Rows PySem PySem.Spec
section
variable {X : Cx} {U : WX}
theorem depthAll_le : ∀ {ds : List Pd}, (∀ d ∈ ds, d.depth ≤ 60) → PyData.depthAll ds ≤ 60
  | [], _ => by simp [PyData.depthAll]
  | d :: ds, h => by
    have h1 := h d List.mem_cons_self
    have h2 := depthAll_le fun e he => h e (List.mem_cons_of_mem _ he)
    simp only [PyData.depthAll]; omega
theorem ds_get {F : Hp} : ∀ {ds : List Pd} {xs : List V} {us : List Value} {i : Nat} {u : Value}, DsL F ds xs → Vals xs us → us[i]? = some u → ∃ d x, ds[i]? = some d ∧ Ds F d x ∧ RelV x u
  | [], _, _, _, _, h, r, e => by cases h; cases r; simp at e
  | d :: ds, _, _, i, u, ⟨x, t, e1, h, q⟩, r, e => by
    subst e1
    cases r with
    | cons r1 r2 =>
      cases i with
      | zero => simp at e; subst e; exact ⟨d, x, rfl, h, r1⟩
      | succ i =>
        obtain ⟨d', x', a, b, c⟩ := ds_get (i := i) q r2 (by simpa using e)
        exact ⟨d', x', by simpa using a, b, c⟩
def rMinR (X : Cx) : List V → Hp → VK → Prop := fun vs H Q => ∃ F a xs d ds, vs = [V.ref a] ∧ Sub F H ∧ SqL X.K H a xs ∧ DsL F (d :: ds) xs ∧ PySem.W.AlikeAll (d :: ds) ∧ (∀ e ∈ d :: ds, e.depth ≤ 60) ∧ ∀ x, Ds F (PySem.W.minD d ds) x → Q x H
theorem cr_minR (hc : X.calm = true) (hu : X.A.units + 64 < cLine) : CallR X (.builtin "min") (rMinR X) := by
  intro pins s σ H vs us Q I r h
  obtain ⟨F, a, xs, d, ds, rfl, sub, hq, hd, hal, hdep, q⟩ := h
  rw [Vals.ref1 r]
  obtain ⟨its, rv, p, hz⟩ := I.list hq
  have hdp : ∀ (es : List Pd) (zs : List V) (vs : List Value), DsL F es zs → Vals zs vs → ∃ as, ReadsAll s.heap vs es as := by
    intro es
    induction es with
    | nil => intro zs vs h r; cases h; cases r; exact ⟨_, .nil⟩
    | cons e es ih =>
      rintro _ vs ⟨x, t, e1, h, q⟩ r
      subst e1
      cases r with
      | cons r1 r2 =>
        obtain ⟨as, h1⟩ := Dp.reads I e x _ (Ds.mono sub e x h).dp r1
        obtain ⟨bs, h2⟩ := ih t _ q r2
        exact ⟨_, .cons h1 h2⟩
  obtain ⟨as, hr⟩ := hdp _ _ _ hd rv
  have hdA := depthAll_le hdep
  refine PySem.W.min_list_data (I.ok.hd hc) p.isList (by simpa using hr) hal (by omega) fun i v h' tk bs hv hrd keep => ?_
  have hv' : its[i]? = some v := by simpa using hv
  obtain ⟨e, x, he, hx, rx⟩ := ds_get hd rv hv'
  obtain ⟨as1, h1⟩ := Dp.reads I e x v (Ds.mono sub e x hx).dp rx
  have h2 := PyProof.Rows.Reads.keeps keep h1
  have e2 : e = PySem.W.minD d ds := by
    exact (PyProof.Rows.reads_det (fun b o e _ => e) hrd h2).1
  subst e2
  exact ⟨x, H, I.kept (t' := tk) keep, rx, q x hx⟩
/-- min: numbers, or alike rows -/
noncomputable def pMinR : List W → R W
  | [.dat (.list (.tuple t :: ds))] => @ite _ (PySem.W.AlikeAll (.tuple t :: ds) ∧ ∀ e ∈ (.tuple t :: ds : List Pd), e.depth ≤ 60) (Classical.propDecidable _) (.ok (.dat (PySem.W.minD (.tuple t) ds))) .no
  | ws => pMin ws
theorem nx_pMinR : NoxL pMinR := fun ws c => by
  unfold pMinR
  split
  · split <;> (intro h; cases h)
  · exact nx_pMin _ _
theorem cal_minR (hc : X.calm = true) (hu : X.A.units + 65 < cLine) : VCal X (.builtin "min") pMinR := by
  obtain ⟨r, h1, h2⟩ := cal_min (X := X) hc
  refine .mk (CallR.or h1 (cr_minR hc (by omega))) fun F H xs ws Q s rb q => ?_
  unfold pMinR at q
  split at q
  · rename_i t ds
    split at q
    · rename_i hk
      obtain ⟨v, r, rfl, ⟨a, ys, rfl, e1, e2⟩, e3⟩ := rb
      cases e3
      exact .inr ⟨F, a, ys, _, _, rfl, s, .of e1, e2, hk.1, hk.2, fun x hx => q x F H (.refl s) hx⟩
    · exact q.elim
  · exact .inl (h2 F H xs _ Q s rb q)
end
end Vd

/-! Val33: len(set(numbers)), a display of one pair by a number, owned lists handed on, calls from a list of defs. -/
namespace Vd
open L2 PyProof.Rows PySem PySem.Spec
section
variable {X : Cx} {U : WX}
/-! ### len(set(xs)), xs numbers of any kind -/
theorem met_mem (f : Nat → Int) : ∀ (n : Nat) (x : Int), x ∈ PyProof.Rows.firstMet f n ↔ ∃ i, i < n ∧ f i = x
  | 0, x => by rw [PyProof.Rows.firstMet_zero]; simp
  | n + 1, x => by
    rw [PyProof.Rows.firstMet_succ]
    unfold PyProof.Rows.step_dedup
    have ih := met_mem f n
    by_cases c : ((PyProof.Rows.firstMet f n).any (· == f n)) = true
    · rw [if_pos c, ih x]
      obtain ⟨y, hy, e⟩ := List.any_eq_true.mp c
      have e : y = f n := eq_of_beq e
      subst e
      constructor
      · rintro ⟨i, h1, h2⟩; exact ⟨i, by omega, h2⟩
      · rintro ⟨i, h1, h2⟩
        by_cases q : i < n
        · exact ⟨i, q, h2⟩
        · have : i = n := by omega
          subst this
          obtain ⟨j, h3, h4⟩ := (ih (f i)).mp hy
          exact ⟨j, h3, by rw [h4, h2]⟩
    · rw [if_neg c, List.mem_append, ih x]
      constructor
      · rintro (⟨i, h1, h2⟩ | h)
        · exact ⟨i, by omega, h2⟩
        · exact ⟨n, by omega, (List.mem_singleton.mp h).symm⟩
      · rintro ⟨i, h1, h2⟩
        by_cases q : i < n
        · exact .inl ⟨i, q, h2⟩
        · have : i = n := by omega
          subst this
          exact .inr (by simp [h2])
theorem met_nodup (f : Nat → Int) : ∀ n : Nat, (PyProof.Rows.firstMet f n).Nodup
  | 0 => by rw [PyProof.Rows.firstMet_zero]; exact List.nodup_nil
  | n + 1 => by
    rw [PyProof.Rows.firstMet_succ]
    unfold PyProof.Rows.step_dedup
    by_cases c : ((PyProof.Rows.firstMet f n).any (· == f n)) = true
    · rw [if_pos c]; exact met_nodup f n
    · rw [if_neg c]
      refine List.nodup_append.mpr ⟨met_nodup f n, by simp, fun a ha b hb => ?_⟩
      simp at hb
      subst hb
      intro e
      exact c (List.any_eq_true.mpr ⟨a, ha, by simp [e]⟩)
theorem met_len (ns : List Int) : (PyProof.Rows.firstMet (fun i => ns.getD i 0) ns.length).length = (ddup ns).length := by
  refine same_len (met_nodup _ _) (fun a ha => ?_) fun a ha => ?_
  · obtain ⟨i, h1, rfl⟩ := (met_mem _ _ _).mp ha
    show ns.getD i 0 ∈ ns
    rw [List.getD_eq_getElem?_getD, List.getElem?_eq_getElem h1]; exact List.getElem_mem _
  · obtain ⟨i, h1, rfl⟩ := List.getElem_of_mem ha
    exact (met_mem _ _ _).mpr ⟨i, h1, by rw [List.getD_eq_getElem?_getD, List.getElem?_eq_getElem h1]; rfl⟩
def tLenSetN (K : PySem.W.Frag) (ta : TE) : TE := fun σ H Q => ta σ H fun x H1 => ∃ (l : Addr) (ns : List Int), x = .ref l ∧ SqL K H1 l (ns.map V.int) ∧ ns.length ≤ 4000 ∧ Q (.int ((ddup ns).length : Nat)) H1
theorem pe_lenSetN {a : Expr} {ta : TE} {p p2 q pos : Pos} (hc : X.calm = true) (hg : Gl X "len") (hm : X.mg "len" = none) (hg2 : Gl X "set") (hm2 : X.mg "set" = none) (ha : PE X a ta)
    (na : starEach [a] X.env = (false, eval a X.env) :: starEach [] X.env := by rfl) : PE X (.Call (.Name "len" p) [.Call (.Name "set" p2) [a] [] q] [] pos) (tLenSetN X.K ta) := by
  constructor
  intro pins s σ H Q I h
  have inner : ∀ (s1 : Shared) (v : Value) (x : V) (H1 : Hp), Inv X pins σ H1 s1 → RelV x v → (∃ (l : Addr) (ns : List Int), x = .ref l ∧ SqL X.K H1 l (ns.map V.int) ∧ ns.length ≤ 4000 ∧ Q (.int ((ddup ns).length : Nat)) H1) →
      wpAny (model X.prog X.w) X.A (call (.type "set") [v]) (fun u s2 => wpAny (model X.prog X.w) X.A (call (.builtin "len") [u]) (EP X pins σ Q) X.xe s2) X.xe s1 := by
    intro s1 v x H1 I1 r1 q1
    obtain ⟨l, ns, rfl, hq, hl, q2⟩ := q1
    cases r1
    obtain ⟨its, r, pl, hz⟩ := I1.list hq
    have en : its.toArray.size = ns.length := by rw [List.size_toArray, ← r.length, List.length_map]
    refine call_set_list (I1.ok.hd hc) pl.isList (ns := ns) (by simpa using ints_of_vals r) (by rw [en]; unfold scanBound; omega) fun h' tk hS hk => ?_
    rw [en] at hS
    have e2 := met_len ns
    have e3 := PyProof.Rows.firstMet_length_le (fun i => ns.getD i 0) ns.length
    obtain ⟨o, es, ep, t, ho, hex, hd, _, _, _, hf, hn⟩ := hS
    have I2 : Inv X pins σ H1 { s1 with heap := h', toks := tk } := I1.kept fun b o e => hk b o (Heap.lt_size e) e
    exact call_len_set ho hex hd hf (by rw [hn] <;> omega) ⟨.int ((ddup ns).length : Nat), H1, I2.tok _, ⟨_, by rw [hn, e2]⟩, q2⟩
  refine Call_ (ld_blt I hg hm boot_len (PyProof.Rows.callWith_builtin1 (PyProof.Rows.args_cons ?_ rfl) rfl rfl))
  refine Call_ (ld_blt I hg2 hm2 boot_set (PyProof.Rows.callWith_type1 (PyProof.Rows.args_cons (thn (ha.run pins s σ H _ I h) fun v s1 ⟨x, H1, I1, r1, q1⟩ => PyProof.Rows.args_nil ?_) na) na rfl))
  exact wpAny_mono (inner s1 v x H1 I1 r1 q1) (fun u s2 h2 => PyProof.Rows.args_nil h2) fun _ _ h => h
def pLenSetN : W → R W
  | .dat (.list ds) => match asInts ds with
    | some ns => if ns.length ≤ 4000 then .ok (wI (ddup ns).length) else .no
    | none => .no
  | _ => .no
theorem ve_lensetN {e : Expr} {f : Rho → R W} {p p2 pos pos2 : Pos} (hc : X.calm = true) (hm : X.mg "len" = none) (hm2 : X.mg "set" = none) (he : VE X U e f) (hg : Gl X "len" := by rfl) (hg2 : Gl X "set" := by rfl)
    (hs : starEach [e] X.env = (false, eval e X.env) :: starEach [] X.env := by rfl) : VE X U (.Call (.Name "len" p) [.Call (.Name "set" p2) [e] [] pos2] [] pos) (f1 pLenSetN f) := by
  refine PE.imp (pe_lenSetN hc hg hm hg2 hm2 he hs) fun σ H Q ⟨B, ρ, F, k, q⟩ => ?_
  unfold f1 at q
  rw [run_bind] at q
  refine ⟨B, ρ, F, k, run_mono q (fun w hw q v F1 H1 e1 r1 => ?_) fun _ q => q⟩
  clear hw
  unfold pLenSetN at q
  split at q
  · split at q
    · rename_i ns hns
      obtain ⟨hl, q⟩ := run_if q
      obtain ⟨a, xs, rfl, h1, h2⟩ := r1
      have e := asInts_rep h2 hns
      subst e
      exact ⟨a, ns, rfl, .of (e1.sub _ _ h1), hl, q _ F1 H1 e1 rfl⟩
    · exact q.elim
  · exact q.elim
/-! ### {k: v}, k a number or a text -/
def nDisp1K (kf vf : Rho → R W) : Rho → R OT := fun ρ => (kf ρ).bind fun y => (vf ρ).bind fun v => (asDat y).bind fun dy => (asDat v).bind fun dv => match keyK dy with
  | some k => .ok (.dK [(k, dv)])
  | none => .no
theorem vn_disp1K {k1 v1 : Expr} {a b : Rho → R W} {pos : Pos} (h1 : VE X U k1 a) (h2 : VE X U v1 b) : VN X U (.Dict [some k1] [v1] pos) (nDisp1K a b) :=
  PE.imp (pe_disp (pps_cons h1 h2 pps_nil) (by rfl) (by rfl) (fun z => by cases z) (Nat.le_of_ble_eq_true rfl)) fun σ H Q ⟨B, ρ, F, k, q⟩ => fun p hp => by
    unfold nDisp1K at q
    rw [run_bind] at q
    have e0 : Ext F H F (upd H p (.dK [])) := .newO k.sub hp
    have k0 := k.ext e0
    refine ⟨B, ρ, F, k0, run_mono q (fun y1 _ q x1 F1 H1 e1 r1 => ?_) fun c q C H' h1 h2 => q C H' h1 (e0.hh.trans h2)⟩
    rw [run_bind] at q
    refine ⟨B, ρ, F1, k0.ext e1, run_mono q (fun y2 _ qz x2 F2 H2 e2 r2 => ?_) fun c q C H' h1 h2 => q C H' h1 ((e0.trans e1).hh.trans h2)⟩
    obtain ⟨da, w1, q1⟩ := asDat_run qz
    obtain ⟨db, w2, qf⟩ := asDat_run q1
    clear q1
    subst w1 w2
    have hp2 : H2 p = some (.dK []) := (e1.trans e2).hh _ _ upd_same
    clear qz
    split at qf
    · rename_i x hx
      have g1 := Ds.keyK r1 hx
      subst g1
      refine ⟨hp2, [(x, x2)], rfl, Nat.le_of_ble_eq_true rfl, ?_⟩
      have em : Ext F H F2 (Vd.minus H2 p) := Ext.minus (o := .dK []) k.sub hp (fun _ h => nomatch h) (e1.trans e2)
      have hF : F2 p = none := em.sub.nn minus_self
      have ex : Ext F H F2 (upd (Vd.minus H2 p) p (.dK (mergeK [] [(x, x2)]))) := em.trans (.newO em.sub minus_self)
      rw [upd_minus] at ex
      refine qf p [p] F2 _ ex ⟨rfl, _, upd_same, ?_⟩ fun c hc => ?_
      · exact KvP.cons r2 .nil
      · rw [List.mem_singleton.mp hc]
        exact ⟨hp, hF, ⟨_, upd_same, fun _ h => nomatch h⟩⟩
    · exact qf.elim
/-! ### a call to which owned lists may be handed; what is told is no object -/
def atomW : W → Bool
  | .dat (.int _) => true
  | .dat (.bool _) => true
  | .dat (.str _) => true
  | .dat .none => true
  | _ => false
def lendW : W → Bool
  | .dat _ => true
  | .kdat _ => true
  | .fn _ => true
  | _ => false
theorem atom_rep {K : PySem.W.Frag} {mg : Str → Option Value} {F G : Hp} {w : W} {v : V} (h : atomW w = true) (r : RpW K mg F w v) : RpW K mg G w v := by
  unfold atomW at h
  split at h
  · exact r
  · exact r
  · exact r
  · exact r
  · cases h
theorem lend_rep {K : PySem.W.Frag} {mg : Str → Option Value} {F H : Hp} (s : Sub F H) : ∀ {ws : List W} {vs : List V}, ws.all lendW = true → RBL K mg F H ws vs → RpL K mg H ws vs
  | [], _, _, h => h
  | w :: ws, _, hl, ⟨v, r, e, h, t⟩ => by
    rw [List.all_cons, Bool.and_eq_true] at hl
    refine ⟨v, r, e, ?_, lend_rep s hl.2 t⟩
    cases w with
    | dat d =>
      cases d with
      | list ds => obtain ⟨a, xs, e, h1, h2⟩ := h; exact ⟨a, xs, e, h1, h2.mono s⟩
      | none => exact h
      | bool b => exact h
      | int i => exact h
      | str x => exact h
      | tuple ds => exact Ds.mono s _ _ h
      | dict _ => exact h
    | kdat d => exact Dp.mono s d v h
    | dK _ => exact nomatch hl.1
    | dT _ => exact nomatch hl.1
    | fn x => exact h
    | obj _ _ => exact nomatch hl.1
def fCalB (g : List W → R W) (t : Rho → R (List W)) : Rho → R W := fun ρ => (t ρ).bind fun ws => if ws.all lendW = true then (g ws).bind fun w => if atomW w = true then .ok w else .no else .no
theorem ve_callL {k j n : Nat} {x : Str} {G : List W → R W} {t : Rho → R (List W)} {e : Expr} {es : List Expr} {p pos : Pos} (F : Fn X.prog X.w X.K X.mg X.base k x n G) (tk : L2N.Takes X U) (hr : Room j X.A) (hk : k ≤ j) (hl : (e :: es).length = n) (ha : VAB X U (e :: es) t)
    (hlen : ∀ ρ ws, t ρ = .ok ws → ws.length = n)
    (hg : Gl X x := by rfl) (hdb : (x == ("__debug__" : Str)) = false := by decide) (he : starEach (e :: es) X.env = (false, eval e X.env) :: starEach es X.env := by rfl) (hpl : (backTo pos (starEach es X.env)).any (·.1) = false := by rfl) :
    VE X U (.Call (.Name x p) (e :: es) [] pos) (fCalB G t) := by
  obtain ⟨f, fd, ps, hn, h1, h2, h3, h4⟩ := F.ex
  refine PE.imp (pe_callS h1 (hr.mono hk) hg h2 h3 h4 (fun σ => L2N.passAt tk σ) ha hdb he hpl) fun σ H Q ⟨B, ρ, F, ok, q⟩ => ?_
  unfold fCalB at q
  rw [run_bind] at q
  refine ⟨B, ρ, F, ok, run_mono q (fun ws ew q vs F1 H1 e1 r1 => ?_) fun _ q => q⟩
  by_cases c : ws.all lendW = true
  · rw [if_pos c, run_bind] at q
    have r2 := lend_rep e1.sub c r1
    refine ⟨H1, ws, by rw [r2.len]; exact hlen ρ ws ew, .refl H1, r2, run_mono q (fun w _ q v F' H' e r => ?_) fun c q C H' h1 h2 => q C H' h1 (e1.hh.trans h2)⟩
    by_cases d : atomW w = true
    · rw [if_pos d] at q
      exact q v F1 H' (e1.trans ⟨.refl _, e.hh, e1.sub.trans e.hh, fun _ h => .inl h⟩) (atom_rep d r)
    · rw [if_neg d] at q; exact q.elim
  · rw [if_neg c] at q; exact q.elim
/-! ### [f, g][i](..) -/
theorem pe_callV {fe e : Expr} {es : List Expr} {tf : TE} {t : TA} {pos : Pos} (hf : PE X fe tf) (ha : PA X (e :: es) t)
    (ht : eval (.Call fe (e :: es) [] pos) X.env = (do callWith pos (← eval fe X.env) [] (backTo pos (starEach (e :: es) X.env)) (backToKw pos (keywordEach [] X.env))) := by rfl)
    (he : starEach (e :: es) X.env = (false, eval e X.env) :: starEach es X.env := by rfl) (hpl : (backTo pos (starEach es X.env)).any (·.1) = false := by rfl) :
    PE X (.Call fe (e :: es) [] pos) (fun σ H Q => tf σ H fun y H1 => ∃ (f : Addr) (fd : FuncData) (ps : List Str) (sp : Sp) (k : Nat) (E : XK), y = .ref f ∧ FnOk X.prog X.w X.K X.mg X.base (L2N.CX X.prog X.w) k f fd ps sp ∧ Room k X.A ∧ PySem.W.keepIn X.K (.ref f) = true ∧ Binds X.K fd ps [] ∧
      PassesAt (L2N.CX X.prog X.w) X σ E ∧ t σ H1 fun vs H2 => sp vs H2 Q E) := by
  constructor
  intro pins s σ H Q I h
  refine Call_ (thn (hf.run pins s σ H _ I h) fun u s1 ⟨y, H1, I1, ry, f, fd, ps, sp, k, E, ey, F, hr, hk, hb, hx, q⟩ => ?_) ht
  subst ey
  obtain rfl : u = Value.ref f := ry
  exact PySem.W.callWith_K (h₀ := X.base) I.ok.mod.kin hk (thn (ha.run pos pins s1 σ H1 _ I1 q) fun us s2 ⟨vs, H2, I2, r, q2⟩ => ⟨I2.kIn, run_fnS (E := fun _ => E) F hr hb hx I2 r q2⟩) he hpl
def fnIx (fs : List Str) : W → R Str
  | .dat (.int i) => match atI fs i with
    | some x => .ok x
    | none => .no
  | _ => .no
def lkG (L : List (Str × (List W → R W))) (x : Str) : Option (List W → R W) := (L.find? fun p => decide (p.1 = x)).map (·.2)
def fCallIx (L : List (Str × (List W → R W))) (fi : Rho → R W) (t : Rho → R (List W)) : Rho → R W := fun ρ => (fi ρ).bind fun w => (fnIx (L.map (·.1)) w).bind fun x => (t ρ).bind fun ws => match lkG L x with
  | some G => G ws
  | none => .no
theorem rpl_fn {K : PySem.W.Frag} {mg : Str → Option Value} {F : Hp} : ∀ {fs : List Str} {vs : List V}, RpL K mg F (fs.map W.fn) vs → ∀ (j : Nat) (x : Str), fs[j]? = some x → ∃ v, vs[j]? = some v ∧ RpW K mg F (.fn x) v
  | [], _, _, _, _, e => by simp at e
  | f :: fs, _, ⟨v, r, e, h, t⟩, 0, x, q => by subst e; simp at q; subst q; exact ⟨v, rfl, h⟩
  | f :: fs, _, ⟨v, r, e, h, t⟩, j + 1, x, q => by subst e; simpa using rpl_fn t j x (by simpa using q)
theorem ve_callIx {j n : Nat} {L : List (Str × (List W → R W))} {les : List Expr} {ie e : Expr} {es : List Expr} {fi : Rho → R W} {t : Rho → R (List W)} {gl : Rho → R (List W)} {lp sp pos : Pos}
    (hL : ∀ p ∈ L, isExc p.1 = false ∧ ∃ k, k ≤ j ∧ Fn X.prog X.w X.K X.mg X.base k p.1 n p.2) (tk : L2N.Takes X U) (hr : Room j X.A) (hl : (e :: es).length = n) (hes : VA X U les gl) (hgl : ∀ ρ, gl ρ = .ok ((L.map (·.1)).map W.fn)) (hlm : L.length ≤ 100) (hi : VE X U ie fi) (ha : VA X U (e :: es) t)
    (hlen : ∀ ρ ws, t ρ = .ok ws → ws.length = n) (hpi : PlainIx ie := by exact fun _ _ => rfl)
    (ht : eval (.Call (.Subscript (.List les lp) ie sp) (e :: es) [] pos) X.env = (do callWith pos (← eval (.Subscript (.List les lp) ie sp) X.env) [] (backTo pos (starEach (e :: es) X.env)) (backToKw pos (keywordEach [] X.env))) := by rfl)
    (he : starEach (e :: es) X.env = (false, eval e X.env) :: starEach es X.env := by rfl) (hpl : (backTo pos (starEach es X.env)).any (·.1) = false := by rfl) :
    VE X U (.Call (.Subscript (.List les lp) ie sp) (e :: es) [] pos) (fCallIx L fi t) := by
  refine PE.imp (pe_callV (pe_ix ix_list (pe_lst hes) hi hpi) ha ht he hpl) fun σ H Q ⟨B, ρ, F, k, q⟩ => ?_
  unfold fCallIx at q
  rw [run_bind] at q
  refine ⟨B, ρ, F, k, ?_⟩
  rw [hgl]
  intro fvs F1 H1 e1 r1
  have hfl : fvs.length = L.length := by have := r1.len; simpa using this
  refine ⟨by rw [hfl]; unfold sizeLine; omega, fun p hp => ?_⟩
  have e2 : Ext F1 H1 (upd F1 p (.lst fvs)) (upd H1 p (.lst fvs)) := .new e1.sub hp
  have e12 := e1.trans e2
  refine ⟨B, ρ, _, k.ext e12, run_mono q (fun w hw q v F3 H3 e3 r3 => ?_) fun c q C H' h1 h2 => q C H' h1 (e12.hh.trans h2)⟩
  clear hw
  have e13 := e12.trans e3
  unfold fnIx at q
  split at q
  · rename_i i
    cases z : atI (L.map (·.1)) i with
    | none => rw [z] at q; exact q.elim
    | some x =>
      rw [z] at q
      have q : run ((t ρ).bind fun ws => match lkG L x with | some G => G ws | none => .no) _ _ := q
      obtain ⟨jx, h1, h2⟩ := atI_bind z
      obtain ⟨v1, h3, h4⟩ := rpl_fn r1 jx x h2
      have hmem : x ∈ L.map (·.1) := List.mem_of_getElem? h2
      obtain ⟨pr, hpr, epr⟩ := List.mem_map.mp hmem
      obtain ⟨hx0, _⟩ := hL pr hpr
      have hx0 : isExc x = false := by rw [← epr]; exact hx0
      obtain ⟨f, h5, ev⟩ := h4
      rw [if_neg (by rw [hx0]; exact fun h => nomatch h)] at h5
      subst ev
      have hlk : ∃ G, lkG L x = some G ∧ (x, G) ∈ L := by
        unfold lkG
        cases y : L.find? (fun p => decide (p.1 = x)) with
        | none => exact absurd (List.find?_eq_none.mp y pr hpr) (by simp [epr])
        | some p2 =>
          have h6 := List.find?_some y
          have h7 : p2.1 = x := of_decide_eq_true h6
          exact ⟨p2.2, rfl, by rw [← h7]; exact List.mem_of_find?_eq_some y⟩
      obtain ⟨G, hG, hGm⟩ := hlk
      obtain ⟨_, k0, hk0, FN⟩ := hL _ hGm
      obtain ⟨f', fd, ps, hn, g1, g2, g3, g4⟩ := FN.ex
      have ef : f' = f := by
        have : X.mg x = some (.ref f') := g2
        rw [h5] at this; cases this; rfl
      subst ef
      refine ⟨p, fvs, i, .ref f', rfl, r3, .of (e3.hh _ _ upd_same), ?_, f', fd, ps, _, k0, _, rfl, g1, hr.mono hk0, g3, g4, L2N.passAt tk σ, B, ρ, F3, k.ext e13, ?_⟩
      · unfold atI
        rw [hfl]
        have : (L.map (·.1)).length = L.length := List.length_map ..
        rw [this] at h1
        rw [h1]; exact h3
      · rw [run_bind] at q
        refine run_mono q (fun ws ew q vs F4 H4 e4 r4 => ?_) fun c q C H' h1 h2 => q C H' h1 (e13.hh.trans h2)
        rw [hG] at q
        exact ⟨F4, ws, by rw [r4.len]; exact hlen ρ ws ew, e4.sub, r4, run_mono q (fun w _ q v F' H' e r => q v F' H' ((e13.trans e4).trans e) r) fun c q C H' h1 h2 => q C H' h1 ((e13.trans e4).hh.trans h2)⟩
  · exact q.elim
end
end Vd

/-! Val34: a refusal caught, told by its class in a def. -/
namespace Vd
open L2 PyProof.Rows PySem PySem.Spec
section
variable {X : Cx} {U : WX}
/-! ### rows of truths: count, index -/
def asBs : List Pd → Option (List Bool)
  | [] => some []
  | .bool i :: r => (asBs r).map (i :: ·)
  | _ :: _ => none
theorem asBs_rep {F : Hp} : ∀ {ds : List Pd} {xs : List V} {ns : List Bool}, DsL F ds xs → asBs ds = some ns → xs = ns.map V.bl
  | [], _, _, h, e => by cases h; cases e; rfl
  | .bool i :: r, _, ns, ⟨x, t, e1, h, q⟩, e => by
    unfold asBs at e
    cases z : asBs r with
    | none => rw [z] at e; cases e
    | some ms =>
      rw [z] at e; cases e
      rw [e1, h, asBs_rep q z]; rfl
  | .none :: _, _, _, _, e => by cases e
  | .int _ :: _, _, _, _, e => by cases e
  | .str _ :: _, _, _, _, e => by cases e
  | .list _ :: _, _, _, _, e => by cases e
  | .tuple _ :: _, _, _, _, e => by cases e
  | .dict _ :: _, _, _, _, e => by cases e
theorem flat_bls (bs : List Bool) : (bs.map V.bl).all flatV = true := by rw [List.all_map]; simp [flatV]
theorem bl_count (b : Bool) : ∀ {bs : List Bool} {us : List Value}, Vals (bs.map V.bl) us → us.countP (eqU (.bl b)) = bs.count b
  | [], _, h => by cases h; rfl
  | a :: bs, _, h => by
    cases h with
    | cons r t =>
      rw [List.countP_cons, List.count_cons, bl_count b t, eqU_of r rfl]
      rfl
def rCntB (K : PySem.W.Frag) : V → List V → Hp → VK → Prop := fun x xs H Q => ∃ (p : Addr) (bs : List Bool) (b : Bool), x = .ref p ∧ xs = [.bl b] ∧ SqL K H p (bs.map V.bl) ∧ Q (.int (bs.count b : Nat)) H
theorem mt_countB : MtR X "list.count" (rCntB X.K) := by
  intro pins s σ H x xs v us Q I rx rxs h
  obtain ⟨p, bs, b, rfl, rfl, hs, q⟩ := h
  cases rx
  obtain ⟨u, rfl, ru⟩ := rxs.one
  obtain ⟨its, rv, ⟨⟨cls, dd, data, sl⟩, n, ho, hc, hdn, hd⟩, hlen⟩ := I.list hs
  simp only at hc hd
  subst hc hd
  refine call_meets PySem.F.slot_list_count ⟨_, ho, rfl⟩ PySem.F.entry_list_count (PySem.F.args_list_count_2 _ _)
    (SeqAt.list_countAt p its.toArray n dd sl u (eqU (.bl b))) ⟨ho, fun y hy => mem_eqAt ru rfl rv (flat_bls bs) y (by simpa using hy), ?_⟩
  have ec : its.toArray.toList.countP (eqU (.bl b)) = bs.count b := by simpa using bl_count b rv
  refine ⟨.int (bs.count b : Nat), H, I.tok _, ⟨s.toks, ?_⟩, q⟩
  show Value.int ((its.toArray.toList.countP (eqU (.bl b)) : Nat) : Int) s.toks = _
  rw [ec]
def asBl : W → Option (List Bool)
  | .dat (.list ds) => asBs ds
  | _ => none
def pCountB (b : Bool) (w : W) : R W := match asBl w with
  | some bs => .ok (wI (bs.count b : Nat))
  | none => .no
def pIndexB (b : Bool) (w : W) : R W := match asBl w with
  | some bs => if b ∈ bs then .ok (wI (bs.idxOf b : Nat)) else .no
  | none => .no
theorem asBl_rep {F H : Hp} {w : W} {v : V} {bs : List Bool} (r : RB X.K X.mg F H w v) (e : asBl w = some bs) : ∃ p, v = .ref p ∧ H p = some (.lst (bs.map V.bl)) := by
  unfold asBl at e
  split at e
  · obtain ⟨p, xs, rfl, h1, h2⟩ := r
    have := asBs_rep h2 e
    subst this
    exact ⟨p, rfl, h1⟩
  · cases e
theorem ve_countB {o : Expr} {f : Rho → R W} {b : Bool} {j : Nat} {p2 apos pos : Pos} (ho : VB X U o f) (hbase : attributeBase o "count" X.env (eval o X.env) = eval o X.env := by rfl) (hline : (apos.endLine == pos.line) = true := by rfl) :
    VE X U (.Call (.Attribute o "count" apos) [.Constant (.bool b) j p2] [] pos) (f1 (pCountB b) f) := by
  refine PE.imp (pe_bm PySem.F.plainAttrs_list PySem.F.slot_list_count PySem.F.type_list_count mt_countB ho (pa_cons pe_bl pa_nil) hbase (by rfl) hline) fun σ H Q ⟨B, ρ, F, k, q⟩ => ?_
  unfold f1 at q
  rw [run_bind] at q
  refine ⟨B, ρ, F, k, run_mono q (fun w hw q v F1 H1 e1 r1 => ?_) fun _ q => q⟩
  clear hw
  unfold pCountB at q
  split at q
  · rename_i bs hbs
    obtain ⟨p, rfl, hp⟩ := asBl_rep r1 hbs
    exact ⟨.inl ⟨rfl, _, .of hp⟩, p, bs, b, rfl, rfl, .of hp, q _ F1 H1 e1 rfl⟩
  · exact q.elim
theorem idx_firstB (b : Bool) : ∀ (bs : List Bool), b ∈ bs → bs[bs.idxOf b]? = some b ∧ ∀ m, m < bs.idxOf b → ∀ z, bs[m]? = some z → z ≠ b
  | [], h => by simp at h
  | a :: l, h => by
    rw [List.idxOf_cons]
    by_cases e : a = b
    · subst e
      simp
    · have hb : (a == b) = false := by simpa using e
      rw [hb]
      have hm : b ∈ l := by rcases List.mem_cons.mp h with q | q; exact (e q.symm).elim; exact q
      obtain ⟨h1, h2⟩ := idx_firstB b l hm
      refine ⟨by simpa using h1, fun m hm z hz => ?_⟩
      cases m with
      | zero => simp at hz; subst hz; exact e
      | succ m => simp only [cond_false] at hm; exact h2 m (by omega) z (by simpa using hz)
theorem ve_indexB {o : Expr} {f : Rho → R W} {b : Bool} {j : Nat} {p2 apos pos : Pos} (ho : VB X U o f) (hbase : attributeBase o "index" X.env (eval o X.env) = eval o X.env := by rfl) (hline : (apos.endLine == pos.line) = true := by rfl) :
    VE X U (.Call (.Attribute o "index" apos) [.Constant (.bool b) j p2] [] pos) (f1 (pIndexB b) f) := by
  refine PE.imp (pe_bm PySem.F.plainAttrs_list PySem.F.slot_list_index PySem.F.type_list_index mt_index ho (pa_cons pe_bl pa_nil) hbase (by rfl) hline) fun σ H Q ⟨B, ρ, F, k, q⟩ => ?_
  unfold f1 at q
  rw [run_bind] at q
  refine ⟨B, ρ, F, k, run_mono q (fun w hw q v F1 H1 e1 r1 => ?_) fun _ q => q⟩
  clear hw
  unfold pIndexB at q
  split at q
  · rename_i bs hbs
    obtain ⟨hm, q⟩ := run_if q
    obtain ⟨p, rfl, hp⟩ := asBl_rep r1 hbs
    obtain ⟨h1, h2⟩ := idx_firstB b bs hm
    refine ⟨.inl ⟨rfl, _, .of hp⟩, p, bs.map V.bl, .bl b, bs.idxOf b, .bl b, rfl, rfl, .of hp, rfl, flat_bls bs, by rw [List.getElem?_map, h1]; rfl, by simp [eqV], fun m z' hm hz => ?_, q _ F1 H1 e1 rfl⟩
    rw [List.getElem?_map] at hz
    cases y : bs[m]? with
    | none => rw [y] at hz; cases hz
    | some z =>
      rw [y] at hz; cases hz
      have := h2 m hm z y
      simp [eqV, this]
  · exact q.elim
end
/-! ### isinstance of the exception that is held -/
def wExc (a : Addr) : W := .fn (excS a)
structure ExcAt (X : Cx) (a D : Addr) : Prop where
  ex : ∃ oe, (a, oe) ∈ X.pn ∧ Zc (.ref D) none oe ∧ ∃ vs, oe.data = .fields vs
section
variable {X : Cx} {U : WX}
theorem call_isP {a D : Addr} (C : ExcC X.K D) (h : ExcAt X a D) : CallR X (.builtin "isinstance") (rIsE X.K D a) := by
  intro pins s σ H xs us Q I r hq
  obtain ⟨c, cv, b, rfl, hcv, e, q⟩ := hq
  obtain ⟨oe, hm, hz, vs, hv⟩ := h.ex
  obtain ⟨hget, _⟩ := I.pin (a, oe) (List.mem_append.mpr (.inl hm))
  cases r with
  | cons rx rr =>
    cases rr with
    | cons rt rr =>
      cases rr
      cases rx
      have ec := hcv _ rt
      subst ec
      have J : PySem.W.InstAt s.heap a oe D none := by
        obtain ⟨oc, od, oda, osl⟩ := oe
        obtain ⟨g1, g2⟩ := hz
        dsimp only at g1 g2 hv
        subst g1 g2 hv
        exact ⟨hget, rfl, rfl, trivial⟩
      have kx := PySem.W.handS_kitx_exc (K := X.K) (x := a) (D := D) (ox := oe) C.hg C.hk C.hs C.hd C.ha C.hn C.ht C.hm
      exact PySem.W.kia_one kx I.kIn J e (fun z => nomatch z) fun tk => ⟨.bl b, H, I.kept (t' := tk) fun _ _ z => z, rfl, q⟩
def fIsE (a : Addr) (b : Bool) (i : Nat) : Rho → R W := fun ρ => match ρ[i]? with
  | some (.fz (.fn s)) => if s = excS a then .ok (bv b) else .no
  | _ => .no
theorem isE_core {a D : Addr} {b : Bool} {i : Nat} {c : V} {cv : Value} (hcv : ∀ u, RelV c u → u = cv) (e : PySem.W.kitOne X.K (.ref D) cv = some b) {σ : L2.St} {H : Hp} {Q : VK} (q : tE X U (fIsE a b i) σ H Q) :
    ∃ v, σ[i]? = some (some v) ∧ rIsE X.K D a [v, c] H Q := by
  obtain ⟨B, ρ, F, k, q⟩ := q
  unfold fIsE at q
  split at q
  · rename_i s hs
    by_cases h : s = excS a
    · rw [if_pos h] at q
      obtain ⟨v, hv, f, h1, h2⟩ := k.get hs
      rw [h, isExc_S, if_pos rfl] at h1
      have := excS_inj h1
      subst this
      subst h2
      exact ⟨_, hv, c, cv, b, rfl, hcv, e, q _ F H (.refl k.sub) rfl⟩
    · rw [if_neg h] at q; exact q.elim
  · exact q.elim
theorem ve_isE {a D : Addr} {b : Bool} (i : Nat) {x y : Str} {p p1 p2 pos : Pos} (C : ExcC X.K D) (h : ExcAt X a D) (hm : X.mg "isinstance" = none) (hy : ∃ Cy, X.mg y = some (.ref Cy) ∧ PySem.W.kitOne X.K (.ref D) (.ref Cy) = some b)
    (hN : X.N[i]? = some x := by rfl) (hv : Vis X.env.scope x := by first | exact Or.inl rfl | exact Or.inr (Or.inl rfl) | exact Or.inr (Or.inr rfl)) (hd : (x == ("__debug__" : Str)) = false := by decide) (hcd : (x == ("__classdict__" : Str)) = false := by decide)
    (hg : Gl X "isinstance" := by rfl) (hgy : Gl X y := by rfl) (hdy : (y == ("__debug__" : Str)) = false := by decide)
    (hs1 : starEach [.Name x p1, .Name y p2] X.env = (false, eval (.Name x p1) X.env) :: starEach [.Name y p2] X.env := by rfl) (hs2 : starEach [.Name y p2] X.env = (false, eval (.Name y p2) X.env) :: starEach [] X.env := by rfl) (hpl : (backTo pos (starEach [.Name y p2] X.env)).any (·.1) = false := by rfl) :
    VE X U (.Call (.Name "isinstance" p) [.Name x p1, .Name y p2] [] pos) (fIsE a b i) := by
  obtain ⟨Cy, h1, h2⟩ := hy
  refine PE.imp (pe_callB (call_isP C h) hg hm PyProof.Rows.boot_isinstance (pa_cons (pe_var hN hv hd hcd) (pa_cons (pe_glob (v := .ref Cy) hgy h1 rfl hdy) pa_nil hs2) hs1) (by decide) (by decide) hs1 hpl) fun σ H Q q => ?_
  exact isE_core (c := .ref Cy) (cv := .ref Cy) (fun u r => r) h2 q
theorem ve_isT {a D : Addr} {b : Bool} (i : Nat) {x y : Str} (Ty : String) {p p1 p2 pos : Pos} (C : ExcC X.K D) (h : ExcAt X a D) (hm : X.mg "isinstance" = none) (hmy : X.mg y = none) (hvy : bootBuiltins y = some (.type Ty)) (hb : PySem.W.kitOne X.K (.ref D) (.type Ty) = some b)
    (hN : X.N[i]? = some x := by rfl) (hv : Vis X.env.scope x := by first | exact Or.inl rfl | exact Or.inr (Or.inl rfl) | exact Or.inr (Or.inr rfl)) (hd : (x == ("__debug__" : Str)) = false := by decide) (hcd : (x == ("__classdict__" : Str)) = false := by decide)
    (hg : Gl X "isinstance" := by rfl) (hgy : Gl X y := by rfl) (hny : y ≠ "__name__" := by decide) (hdy : (y == ("__debug__" : Str)) = false := by decide)
    (hs1 : starEach [.Name x p1, .Name y p2] X.env = (false, eval (.Name x p1) X.env) :: starEach [.Name y p2] X.env := by rfl) (hs2 : starEach [.Name y p2] X.env = (false, eval (.Name y p2) X.env) :: starEach [] X.env := by rfl) (hpl : (backTo pos (starEach [.Name y p2] X.env)).any (·.1) = false := by rfl) :
    VE X U (.Call (.Name "isinstance" p) [.Name x p1, .Name y p2] [] pos) (fIsE a b i) := by
  refine PE.imp (pe_callB (call_isP C h) hg hm PyProof.Rows.boot_isinstance (pa_cons (pe_var hN hv hd hcd) (pa_cons (pe_bltn (v := .ty Ty) hgy hmy hvy rfl hny hdy) pa_nil hs2) hs1) (by decide) (by decide) hs1 hpl) fun σ H Q q => ?_
  exact isE_core (c := .ty Ty) (cv := .type Ty) (fun u r => r) hb q
end
/-! ### a def that is told the refusal -/
structure FnE (P : Program) (w : World) (K : PySem.W.Frag) (mg : Str → Option Value) (base : Heap) (k : Nat) (ys : List Str) (x : Str) (G : Str → R W) : Prop where
  ex : ∃ f fd ps, ps.length = 1 ∧ mg x = some (.ref f) ∧ PySem.W.keepIn K (.ref f) = true ∧ Binds K fd ps [] ∧
    ∀ (c : Str) (D : Addr) (p : Addr × Obj), c ∈ ys → mg c = some (.ref D) → Zc (.ref D) none p.2 → (∃ vs, p.2.data = .fields vs) →
      ∀ (A : Around) (outer : List Env) (s : Shared) (H : Hp) (args : Args) (us : List Value) (Q : VK), L2H.RoomH k A → L2H.Hot1 A p → L2H.PinOk outer H s p → Env0 P w K mg base A outer s H → BindsTo s fd args (ps.zip us) → Vals [.ref p.1] us →
        (∃ F, Sub F H ∧ run (G c) (fun w => ∀ v F' H', Ext F H F' H' → RpW K mg F' w v → Q v H') (fun _ => False)) →
        codeAny (model P w) A (.call (.ref f) args) (CR (L2N.CX P w) outer P w H s Q (fun _ _ _ => False)) s
section
variable {P : Program} {w : World} {K : PySem.W.Frag} {mg : Str → Option Value} {base : Heap}
theorem code_of {CX : CXT} {k : Nat} {f : Addr} {name qual : Str} {params : Arguments} {body : List Stmt} {scope : Scope} {dV kV doc pm cdv ct oc : Value} {an od : Option Addr} {osl : Array (Option Value)} {N ps : List Str}
    (lk : K.lookup f = some ⟨oc, od, .func (PySem.W.fnOf name qual params body scope dV kV doc pm an cdv ct), osl⟩) (hcd : PySem.W.codeIn K cdv qual = true) (S : FnScope N ps scope) {p : Addr × Obj}
    {A : Around} {outer : List Env} {s : Shared} {H : Hp} {args : Args} {us : List Value} {vs : List V} {Q : VK} {E : XK} (hr : L2H.RoomH (k + 1) A) (hot : L2H.Hot1 A p) (hpin : L2H.PinOk outer H s p) (e0 : Env0 P w K mg base A outer s H)
    (hb : BindsTo s (PySem.W.fnOf name qual params body scope dV kV doc pm an cdv ct) args (ps.zip us)) (r : Vals vs us) (hl : vs.length = ps.length)
    (hbody : L2H.RoomH k (A.deeper (envOfC qual scope s.heap.objs.size f cdv)) → ∃ t, PSs (L2H.cxH CX P w K mg base N qual scope f cdv A outer s H E p) body t ∧ t { nx := fun _ H' => Q .non H', rt := Q } (L2.start N vs) H) :
    codeAny (model P w) A (.call (.ref f) args) (CR CX outer P w H s Q E) s := by
  have KX : K.In s.heap := e0.mod.kin.keeps fun b o e => (e0.bs b o e).1
  have lim : s.heap.NoLimit := e0.mod.nolimit.keeps fun b o e => (e0.bs b o e).1
  have hkind : ∀ y ∈ ps.zip us, scope.names.lookup y.1 = some .local ∨ (scope.names.lookup y.1 = some .cell ∧ ((cellsFrom (s.heap.objs.size + 1) scope.names []).lookup y.1).isSome = true) := by
    rintro ⟨n, v⟩ hy
    have := S.par n (List.of_mem_zip hy).1
    exact this.elim .inl fun q => .inr ⟨q, PySem.W.cellsFrom_some _ _ _ (.inl q)⟩
  apply codeAny_call_function hr.depth (KX _ _ lk) rfl S.co S.gen rfl (PySem.W.codeRec_of KX hcd)
  refine hb _ _ _ _ (wpAny_newFunctionEnv_cells S.kind hkind fun env he s1 x => ?_)
  subst he
  refine ⟨lim.keeps x.toInCall.keep, codeAny_func ?_⟩
  obtain ⟨t, ht, hq⟩ := hbody (hr.deeper _)
  have I := L2H.inv_startH (CX := CX) (E := E) S hpin e0 hl r x
  have fin : ∀ {s' : Shared} {σ' : L2.St} {H' : Hp} {v : V} {u : Value}, Inv (L2H.cxH CX P w K mg base N qual scope f cdv A outer s H E p) [] σ' H' s' → RelV v u → Q v H' → CE outer P w H s Q u s' :=
    fun {s' σ' H' v u} J rv q => ⟨v, H', J.os, J.bare, J.base, J.hok, rv, q⟩
  exact wpAny_mono (ht.run [] s1 (L2.start N vs) H _ I hq) (fun fl s' hs => match fl, hs with
    | .ret u, ⟨v, σ', H', J, rv, q⟩ => fin J rv q
    | .next, ⟨σ', H', J, q⟩ => fin (v := V.non) (u := Value.none) J rfl q
    | .brk, ⟨_, _, _, q⟩ => False.elim q
    | .cont, ⟨_, _, _, q⟩ => False.elim q) fun e s' hs => hs
theorem FnE.of {x : Str} {st : Stmt} {f : Addr} {fd : FuncData} {N ps : List Str} {k : Nat} {ys : List Str} {g : Addr → Str → Rho → R Out} {G : Str → R W} (F : Fun K x x st f fd) (S : FnScope N ps (defScope st)) (hp : ps.length = 1) (gx : mg x = some (.ref f)) (hb : Binds K fd ps [])
    (hG : ∀ a c, c ∈ ys → fnSem N.length (g a c) [wExc a] = G c)
    (body : ∀ (c : Str) (D : Addr) (p : Addr × Obj), c ∈ ys → mg c = some (.ref D) → Zc (.ref D) none p.2 → (∃ vs, p.2.data = .fields vs) → ∀ (cdv : Value) (A : Around) (outer : List Env) (s : Shared) (H : Hp), L2H.RoomH k (A.deeper (envOfC x (defScope st) s.heap.objs.size f cdv)) →
      VSs (L2H.cxH (L2N.CX P w) P w K mg base N x (defScope st) f cdv A outer s H (fun _ _ _ => False) p) NoU (defBody st) (g p.1 c)) : FnE P w K mg base (k + 1) ys x G := by
  have hpl : ps.length ≤ N.length := by have := congrArg List.length S.pre; rw [List.length_take] at this; omega
  refine ⟨f, fd, ps, hp, gx, F.kp, hb, fun c D p hc hm hz hv A outer s H args us Q hr hot hpin e0 hbd r hsp => ?_⟩
  obtain ⟨_, _, _, _, _, _, cd, _, _, e, lk, h⟩ := F.ex
  subst e
  obtain ⟨F0, sub, q⟩ := hsp
  refine code_of lk h S hr hot hpin e0 hbd r (by rw [hp]; rfl) fun hr' => ⟨_, body c D p hc hm hz hv cd A outer s H hr', ?_⟩
  rw [← hG p.1 c hc] at q
  unfold fnSem at q
  rw [run_bind] at q
  have rep : RpL K mg F0 [wExc p.1] [.ref p.1] := ⟨.ref p.1, [], rfl, ⟨p.1, by rw [isExc_S, if_pos rfl], rfl⟩, rfl⟩
  refine ⟨⟨F0, H, N.length⟩, rho0 N.length [wExc p.1], F0, .start sub rep (by simp; omega), run_mono q (fun o _ q => ?_) fun c q => q.elim⟩
  cases o with
  | nx ρ' => exact fun F' σ' H' k' => q .non F' H' k'.fin rfl
  | rt w => exact fun v F' H' e r => q v F' H' e r
  | ro w ρ' => exact fun v F' σ' H' k' r => q v F' H' k'.fin r
  | rn c fs => exact q.elim
end
/-! ### try .. except C as e: return f(e) -/
def noOw (ρ : Rho) : Bool := ρ.all fun s => match s with
  | .ow _ => false
  | .ob _ _ _ => false
  | _ => true
def gTryE (i : Nat) (ys : List Str) (G : Str → R W) (g : Rho → R Out) : Rho → R Out := fun ρ => if noOw ρ = true ∧ i < ρ.length then (match g ρ with
  | .ex c => if c ∈ ys then (noEx (G c)).bind fun w => .ok (.rt w) else .no
  | r => r) else .no
section
variable {K : PySem.W.Frag} {mg : Str → Option Value} {B : Bs} {ρ ρ' : Rho} {F F' H H' : Hp} {σ σ' : L2.St}
theorem EnvOk.anew (k : EnvOk K mg B ρ F σ H) (h : noOw ρ = true) : EnvOk K mg ⟨F, H, B.n⟩ ρ F σ H := by
  obtain ⟨fp, h1, _, _⟩ := k.fp
  refine ⟨k.sub, .refl F, .refl H, fun _ h => .inl h, k.len, k.lenB, fun _ => [], fun i => ?_, (fun _ _ h => nomatch h), fun _ _ _ h => nomatch h⟩
  have hi := h1 i
  cases z : ρ.getD i .un with
  | un => rfl
  | fz w => rw [z] at hi; exact ⟨rfl, hi.2⟩
  | ob a c fs =>
    exfalso
    rw [List.getD_eq_getElem?_getD] at z
    cases y : ρ[i]? with
    | none => rw [y] at z; cases z
    | some s =>
      rw [y] at z
      have hs : s = .ob a c fs := z
      subst hs
      have := List.all_eq_true.mp h _ (List.mem_of_getElem? y)
      cases this
  | ow t =>
    exfalso
    rw [List.getD_eq_getElem?_getD] at z
    cases y : ρ[i]? with
    | none => rw [y] at z; cases z
    | some s =>
      rw [y] at z
      have hs : s = .ow t := z
      subst hs
      have := List.all_eq_true.mp h _ (List.mem_of_getElem? y)
      cases this
theorem EnvOk.back2 (k : EnvOk K mg B ρ F σ H) (j : EnvOk K mg ⟨F, H, B.n⟩ ρ' F' σ' H') : EnvOk K mg B ρ' F' σ' H' := by
  obtain ⟨fp, h1, h2, h3⟩ := j.fp
  exact ⟨j.sub, k.f0.trans j.f0, k.h0.trans j.h0, fun a h => (j.nw a h).elim (fun h => k.nw a h) fun h => .inr (h.back k.h0), j.len, j.lenB, fp, h1, fun i a ha => ⟨(h2 i a ha).1, k.h0.nn (h2 i a ha).2.1, (h2 i a ha).2.2⟩, h3⟩
end
section
variable {X : Cx} {U : WX}
theorem pe_callE {k : Nat} {ys : List Str} {f n : Str} {G : Str → R W} {a : Addr} {oe : Obj} {i : Nat} {fp np cp : Pos} (FE : FnE X.prog X.w X.K X.mg X.base k ys f G) (hr : L2H.RoomH k X.A) (hh : X.A.handled = some (.ref a)) (hp : (a, oe) ∈ X.pn) (hctx : PXN.CtxN oe) (hv : ∃ vs, oe.data = .fields vs)
    (hi : X.N[i]? = some n) (hvs : Vis X.env.scope n) (hgf : Gl X f) (hdf : (f == ("__debug__" : Str)) = false) (hdn : (n == ("__debug__" : Str)) = false) (hcn : (n == ("__classdict__" : Str)) = false)
    (hs : starEach [.Name n np] X.env = (false, eval (.Name n np) X.env) :: starEach [] X.env) (hpl : (backTo cp (starEach [] X.env)).any (·.1) = false) :
    PE X (.Call (.Name f fp) [.Name n np] [] cp) (fun σ H Q => ∃ (D : Addr) (c : Str) (F : Hp), c ∈ ys ∧ X.mg c = some (.ref D) ∧ Zc (.ref D) none oe ∧ σ[i]? = some (some (.ref a)) ∧ Sub F H ∧ run (G c) (fun w => ∀ v F' H', Ext F H F' H' → RpW X.K X.mg F' w v → Q v H') (fun _ => False)) := by
  constructor
  rintro pins s σ H Q I ⟨D, c, F, hc, hm, hz, hσ, sub, q⟩
  obtain ⟨ff, fd, ps, hl, hmf, hkf, hb, rn⟩ := FE.ex
  have pa : PA X [.Name n np] _ := pa_cons (pe_var hi hvs hdn hcn) pa_nil hs
  refine wpAny_Call_Name_kw (ld_glob I hgf hmf ?_ hdf)
  refine PySem.W.callWith_K (h₀ := X.base) I.ok.mod.kin hkf (thn (pa.run cp pins s σ H (fun vs H1 => vs = [V.ref a] ∧ H1 = H) I ⟨.ref a, hσ, rfl, rfl⟩) fun us s1 ⟨vs, H1, I1, r, ev, eH⟩ => ⟨I1.kIn, ?_⟩) hs hpl
  subst ev eH
  have hul : us.length = ps.length := by rw [← r.length, hl]; rfl
  have b := hb s1 us I1.kIn (by rw [List.append_nil]; exact hul)
  rw [List.append_nil] at b
  have P1 := I1.pin (a, oe) (List.mem_append_left _ hp)
  have hpin : L2H.PinOk X.stack H1 s1 (a, oe) := ⟨P1.1, P1.2.1, fun hm => (List.mem_cons.mp (I1.stkSub a hm)).elim P1.2.2.1 P1.2.2.2.1, P1.2.2.2.2⟩
  obtain ⟨vs0, hv0⟩ := hv
  have hot : L2H.Hot1 X.A (a, oe) := ⟨hh, vs0, hv0, hctx vs0 hv0⟩
  refine wpAny_call (codeAny_mono (rn c D (a, oe) hc hm hz ⟨vs0, hv0⟩ X.A X.stack s1 H1 ⟨us, []⟩ us Q hr hot hpin I1.env0 b r ⟨F, sub, q⟩) fun r s' hq => ?_)
  match r, hq with
  | .error e, hq =>
    obtain ⟨_, _, _, _, _, _, _, _, _, _, _, _, z⟩ := hq
    exact z.elim
  | .ok (.ret u), hq => exact I1.after hq
  | .ok .next, hq => exact False.elim hq
  | .ok .brk, hq => exact False.elim hq
  | .ok .cont, hq => exact False.elim hq
theorem vs_tryE {k j : Nat} {ys : List Str} {f n x : Str} {G : Str → R W} (i : Nat) {body : List Stmt} {g : Rho → R Out} {np np2 fp cp rp hpos pos : Pos} (FE : FnE X.prog X.w X.K X.mg X.base k ys f G) (hr : Room j X.A) (hk : k ≤ j) (tk : L2N.Takes X U) (hN : X.N.Nodup)
    (hx : ∃ CP, X.mg x = some (.ref CP) ∧ ∀ c ∈ ys, ∃ D, X.mg c = some (.ref D) ∧ PySem.W.exmOne X.K (.ref D) (.ref CP) = some true)
    (hb : ∀ (W : WX) (pn : List (Addr × Obj)) (xe : Value → Shared → Prop), L2N.Takes (X.tr pn xe) W → PassesOwn (model X.prog X.w) X.A X.env xe → VSs (X.tr pn xe) W body g)
    (hs : X.stack = X.env :: X.outer := by rfl) (hf : X.env.frame = some X.env.locals := by rfl) (hi : X.N[i]? = some n := by rfl) (hln : X.env.kindOf n = some .local := by rfl) (hvs : Vis X.env.scope n := by exact .inl rfl) (hgx : Gl X x := by rfl) (hdx : (x == ("__debug__" : Str)) = false := by decide)
    (hgf : Gl X f := by rfl) (hdf : (f == ("__debug__" : Str)) = false := by decide) (hdn : (n == ("__debug__" : Str)) = false := by decide) (hcn : (n == ("__classdict__" : Str)) = false := by decide)
    (hst : starEach [.Name n np2] X.env = (false, eval (.Name n np2) X.env) :: starEach [] X.env := by rfl) (hpl : (backTo cp (starEach [] X.env)).any (·.1) = false := by rfl) :
    VS X U (.Try body [.ExceptHandler (some (.Name x np)) (some n) [.Return (some (.Call (.Name f fp) [.Name n np2] [] cp)) rp] hpos] [] [] pos) (gTryE i ys G g) := by
  obtain ⟨CP, hCP, hsub⟩ := hx
  refine PS.imp (L2N.ps_try_as (i := i) (c := .ref CP) (tb := fun W => tS X W g) (Wout := U)
    (ts := fun a cls d D σ H => ∃ (D0 : Addr) (c : Str) (F : Hp), c ∈ ys ∧ cls = .ref D0 ∧ d = none ∧ X.mg c = some (.ref D0) ∧ σ[i]? = some (some (.ref a)) ∧ Sub F H ∧ run (G c) (fun w => ∀ v F' H', Ext F H F' H' → RpW X.K X.mg F' w v → D.rt v H') (fun _ => False))
    hs hf hN hi hln ⟨hgx, hdx, .inl hCP⟩ tk (fun W pn xe tk' pz => hb W pn xe tk' pz) fun a oe cls d pn hz hv => ?_) fun D σ H ⟨B, ρ, F, k, q⟩ => ?_
  · have pe : PE (X.suite a ((a, oe) :: pn)) (.Call (.Name f fp) [.Name n np2] [] cp) _ := pe_callE (X := X.suite a ((a, oe) :: pn)) (i := i) (a := a) (oe := oe) FE ⟨(hr.mono hk).dp, (hr.mono hk).un⟩ rfl List.mem_cons_self hz.2.2 hv hi hvs hgf hdf hdn hcn hst hpl
    refine pss_one (PS.imp (ps_ret pe) ?_)
    rintro D σ H ⟨D0, c, F, hc, rfl, rfl, hm, hσ, sub, q⟩
    exact ⟨D0, c, F, hc, hm, hz.zc, hσ, sub, q⟩
  · unfold gTryE at q
    obtain ⟨⟨h1, h2⟩, q⟩ := run_if q
    refine ⟨⟨F, H, B.n⟩, ρ, F, k.anew h1, ?_⟩
    cases z : g ρ with
    | no => rw [z] at q; exact q.elim
    | ok o =>
      rw [z] at q
      cases o with
      | nx ρ' => exact fun F' σ' H' k' => q F' σ' H' (k.back2 k')
      | rt w => exact fun v F' H' e r => q v F' H' (k.fin.trans e) r
      | ro w ρ' => exact fun v F' σ' H' k' r => q v F' σ' H' (k.back2 k') r
      | rn c fs => exact fun b fp F' H' e r hn => q b fp F' H' (k.fin.trans e) r fun x hx => ⟨k.h0.nn (hn x hx).1, (hn x hx).2⟩
    | ex c =>
      rw [z] at q
      have q : run (if c ∈ ys then (noEx (G c)).bind fun w => .ok (.rt w) else .no) (pOut X B D) (pEx X U B) := q
      obtain ⟨hc, q⟩ := run_if q
      intro C σ' H' hm hl sub
      obtain ⟨D0, g1, g2⟩ := hsub c hc
      rw [hm] at g1; cases g1
      refine ⟨true, g2, fun _ a na => ⟨C, c, F, hc, rfl, rfl, hm, List.getElem?_set_self (by rw [hl, ← k.lenB]; exact h2), k.sub.trans sub, ?_⟩, fun h => nomatch h⟩
      cases y : G c with
      | no => rw [y] at q; exact q.elim
      | ex c' => rw [y] at q; exact q.elim
      | ok w =>
        rw [y] at q
        intro v F' H'' e r
        exact q v F' H'' (k.fin.trans ((⟨.refl F, sub, k.sub.trans sub, fun _ h => .inl h⟩ : Ext F H F H').trans e)) r
end
end Vd
namespace Vd
open L2 PyProof.Rows PySem PySem.Spec
structure UnitsOk (X : Cx) : Prop where
  u : X.A.units + 65 < cLine
theorem UnitsOk.units {X : Cx} (h : UnitsOk X) : X.A.units + 64 < cLine := by have := h.u; omega
theorem pAdd_L (xs ys : List Pd) (h : xs.length + ys.length ≤ 1000) : pAdd (.dat (.list xs)) (.dat (.list ys)) = .ok (.dat (.list (xs ++ ys))) := by
  show (if xs.length + ys.length ≤ sizeLine then R.ok (W.dat (.list (xs ++ ys))) else .no) = _
  rw [if_pos (by unfold sizeLine; omega)]
end Vd

/-! Val35: dict(list of pairs), keys tuples of numbers and texts, each once. -/
namespace Vd
open L2 PyProof.Rows PySem PySem.Spec
theorem stored_app {K : Type} [DecidableEq K] : ∀ (ps xs : List (K × Addr × Value)), ((xs ++ ps).map (·.1)).Nodup → storedAllH xs ps = xs ++ ps
  | [], xs, _ => by simp [storedAllH]
  | p :: ps, xs, h => by
    have e : storedH xs p.1 p.2.1 p.2.2 = xs ++ [p] := by
      refine storedH_new (atKey_none_of_get (xs := xs) (k := p.1) fun j x hj => ?_) p.2.1 p.2.2
      rw [List.map_append, List.nodup_append] at h
      exact h.2.2 p.1 (List.mem_map.mpr ⟨_, List.mem_of_getElem? hj, rfl⟩) p.1 (List.mem_map.mpr ⟨p, List.mem_cons_self, rfl⟩) rfl
    show storedAllH (storedH xs p.1 p.2.1 p.2.2) ps = _
    rw [e, stored_app ps (xs ++ [p]) (by rw [List.append_assoc]; exact h), List.append_assoc]
    rfl
section
variable {X : Cx} {U : WX}
/-- a list of addresses of pairs -/
def PrT (K : PySem.W.Frag) (H : Hp) : List Addr → List (List Key × Addr × V) → Prop
  | [], kvs => kvs = []
  | p :: ps, kvs => ∃ k b v r, kvs = (k, b, v) :: r ∧ SqT K H p [.ref b, v] ∧ H b = some (.tup (k.map kV)) ∧ PrT K H ps r
theorem prT_read {pins : List (Addr × Obj)} {σ : L2.St} {H : Hp} {s : Shared} (I : Inv X pins σ H s) : ∀ {ps : List Addr} {kvs : List (List Key × Addr × V)}, PrT X.K H ps kvs →
    ∃ prs : List (List Key × Addr × Value), Paired (fun (p : List Key × V) (q : List Key × Addr × Value) => p.1 = q.1 ∧ H q.2.1 = some (.tup (p.1.map kV)) ∧ RelV p.2 q.2.2) (kvs.map fun x => (x.1, x.2.2)) prs ∧ prs.map (·.1) = kvs.map (·.1) ∧ prs.length = ps.length ∧
      ∀ (j : Nat) (q : List Key × Addr × Value), prs[j]? = some q → H q.2.1 = some (.tup (q.1.map kV)) ∧ ∃ b : Addr, ps[j]? = some b ∧ IsTup s.heap b #[.ref q.2.1, q.2.2]
  | [], kvs, h => by cases h; exact ⟨[], .nil, rfl, rfl, fun j q e => by simp at e⟩
  | p :: ps, _, ⟨k, b, v, r, e, h1, h2, h3⟩ => by
    subst e
    obtain ⟨prs, g1, g2, g3, g4⟩ := prT_read I h3
    obtain ⟨its, rv, ht, _⟩ := I.tuple h1
    obtain ⟨u, y, ei, ru, ry⟩ := vals2 rv
    subst ei
    cases ru
    refine ⟨(k, b, y) :: prs, .cons ⟨rfl, h2, ry⟩ g1, by simp [g2], by simp [g3], fun j q e => ?_⟩
    cases j with
    | zero =>
      have e' : (k, b, y) = q := Option.some.inj e
      subst e'
      exact ⟨h2, p, rfl, ht⟩
    | succ j =>
      obtain ⟨a1, c, a2, a3⟩ := g4 j q (by simpa using e)
      exact ⟨a1, c, by simpa using a2, a3⟩
def rDictT (K : PySem.W.Frag) : List V → Hp → VK → Prop := fun xs H Q => ∃ (a : Addr) (ps : List Addr) (kvs : List (List Key × Addr × V)), xs = [.ref a] ∧ SqL K H a (ps.map V.ref) ∧ PrT K H ps kvs ∧ (kvs.map (·.1)).Nodup ∧
  ∀ p, H p = none → Q (.ref p) (upd H p (.dT (kvs.map fun x => (x.1, x.2.2))))
theorem cr_dictT (hc : X.calm = true) (hu : X.A.units + 65 < cLine) : CallR X (.type "dict") (rDictT X.K) := by
  intro pins s σ H xs us Q I r q
  obtain ⟨a, ps, kvs, ex, hq, hp, hn, q⟩ := q
  subst ex
  obtain ⟨u, eu, rx⟩ := vals1 r
  subst eu
  cases rx
  obtain ⟨its, rv, pl, hz⟩ := I.list hq
  have ei := refs_at rv
  subst ei
  rw [List.length_map] at hz
  obtain ⟨prs, g1, g2, g3, g4⟩ := prT_read I hp
  obtain ⟨o, n, ho, hcl, hd, hdat⟩ := pl
  have P := PairArg.list (prog := X.prog) (w := X.w) a (ps.map Value.ref).toArray (fun j => ps.getD j 0) (prs.map fun q => (Value.ref q.2.1, q.2.2))
  have ok : PlainSeq "list" s.heap a (ps.map Value.ref).toArray ∧ PairItems s.heap (ps.map Value.ref).toArray (fun j => ps.getD j 0) (prs.map fun q => (Value.ref q.2.1, q.2.2)) := by
    refine ⟨⟨o, n, ho, hcl, hd, hdat⟩, by simp [g3], fun j k v e => ?_⟩
    rw [List.getElem?_map] at e
    cases z : prs[j]? with
    | none => rw [z] at e; cases e
    | some y =>
      rw [z] at e
      cases e
      obtain ⟨_, b, h1, h2⟩ := g4 j y z
      have hb : ps.getD j 0 = b := by rw [List.getD_eq_getElem?_getD, h1]; rfl
      show _ ∧ PairAt s.heap (ps.getD j 0) _ _
      rw [hb]
      exact ⟨by simp [h1], .inl h2⟩
  have hnd : (prs.map (·.1)).Nodup := by rw [g2]; exact hn
  have hst : storedAllH [] prs = prs := by rw [stored_app prs [] (by simpa using hnd)]; rfl
  refine call_dict_pairsH (knd := tupleKind (mixKind X.prog X.w)) (ps := prs) P (I.ok.hd hc) (show X.A.units + 2 < cLine by omega) ok ⟨by simp, fun i key v e => ?_⟩ (fun h' hk x hx => ?_) (by simp [g3]; exact hz) fun h' tk hd' hk => ?_
  · have e : (prs.map fun q => (Value.ref q.2.1, q.2.2))[i]? = some (key, v) := e
    rw [List.getElem?_map] at e
    cases z : prs[i]? with
    | none => rw [z] at e; cases e
    | some y =>
      rw [z] at e
      cases e
      exact ⟨y.1, y.2.1, rfl, rfl⟩
  · obtain ⟨j, hj⟩ := List.mem_iff_getElem?.mp hx
    obtain ⟨h1, _⟩ := g4 j x hj
    obtain ⟨o1, its1, n1, h2, h3⟩ := key_of I.hok h1
    exact ⟨o1, its1, n1, hk _ _ (Nat.ne_of_lt (Heap.lt_size h2)) (by simp) h2, h3⟩
  · rw [hst] at hd'
    obtain ⟨o1, es, ep, q1, q2, q3, q4, _, q5⟩ := hd'
    have hm : (s.heap.objs.size == sysModules) = false := beq_eq_false_iff_ne.mpr (Nat.ne_of_gt I.big)
    have hfr : H s.heap.objs.size = none := I.hok.fresh (Nat.le_refl _)
    have hlen : (kvs.map fun x => (x.1, x.2.2)).length ≤ sizeLine := by
      have := congrArg List.length g2
      simp only [List.length_map] at this ⊢
      omega
    refine ⟨.ref s.heap.objs.size, upd H s.heap.objs.size (.dT (kvs.map fun x => (x.1, x.2.2))), I.laid (t' := tk) (fun b o e => hk b o (by simp) e) (Nat.le_refl _) ⟨hlen, hm, prs, ?_, o1, es, ep, q1, q2, q3, q4, q5⟩, rfl, q _ hfr⟩
    refine Paired.mono (fun p q hpq => ⟨hpq.1, ?_, hpq.2.2⟩) g1
    rw [upd_ne (ne_of_none hpq.2.1 hfr)]; exact hpq.2.1
def kvsT : List Pd → Option (List (List Key × Pd))
  | [] => some []
  | .tuple [kd, vd] :: r => match keyT kd, kvsT r with
    | some k, some t => some ((k, vd) :: t)
    | _, _ => none
  | _ :: _ => none
theorem kvsT_rep {K : PySem.W.Frag} {F : Hp} : ∀ {ds : List Pd} {xs : List V} {t : List (List Key × Pd)}, DsL F ds xs → kvsT ds = some t → ∃ (ps : List Addr) (kvs : List (List Key × Addr × V)), xs = ps.map V.ref ∧ PrT K F ps kvs ∧ KvP F t (kvs.map fun x => (x.1, x.2.2))
  | [], _, _, h, e => by cases h; cases e; exact ⟨[], [], rfl, rfl, .nil⟩
  | d :: ds, _, t, ⟨x, r, e1, h, q⟩, e => by
    subst e1
    unfold kvsT at e
    split at e
    · rename_i heq
      cases heq
    · rename_i kd vd r' heq
      cases heq
      split at e
      · rename_i k t' hk ht
        cases e
        obtain ⟨ps, kvs, rfl, g1, g2⟩ := kvsT_rep (K := K) q ht
        obtain ⟨p, ys, rfl, hp, kx, r2, rfl, hkx, vx, r3, rfl, hvx, hr3⟩ := h
        cases hr3
        obtain ⟨b, rfl, hb⟩ := hkx.keyT hk
        exact ⟨p :: ps, (k, b, vx) :: kvs, rfl, ⟨k, b, vx, kvs, rfl, .of hp, hb, g1⟩, .cons hvx g2⟩
      · cases e
    · cases e
theorem PrT.mono {K : PySem.W.Frag} {F H : Hp} (s : Sub F H) : ∀ {ps : List Addr} {kvs : List (List Key × Addr × V)}, PrT K F ps kvs → PrT K H ps kvs
  | [], _, h => h
  | _ :: _, _, ⟨k, b, v, r, e, h1, h2, h3⟩ => ⟨k, b, v, r, e, sqT_mono s h1, s _ _ h2, PrT.mono s h3⟩
noncomputable def nDictT (f : Rho → R W) : Rho → R OT := fun ρ => (f ρ).bind fun w => match w with
  | .dat (.list ds) => match kvsT ds with
    | some t => @ite _ ((t.map (·.1)).Nodup) (Classical.propDecidable _) (.ok (.dT t)) .no
    | none => .no
  | _ => .no
theorem vn_dictT {e : Expr} {f : Rho → R W} {p pos : Pos} (hc : X.calm = true) (hu : X.A.units + 65 < cLine) (hm : X.mg "dict" = none) (he : VE X U e f) (hg : Gl X "dict" := by rfl)
    (hs : starEach [e] X.env = (false, eval e X.env) :: starEach [] X.env := by rfl) (hpl : (backTo pos (starEach [] X.env)).any (·.1) = false := by rfl) : VN X U (.Call (.Name "dict" p) [e] [] pos) (nDictT f) := by
  refine PE.imp (pe_callTy (cr_dictT hc hu) hg hm (by decide +kernel) (pa_cons he pa_nil hs) (by decide) (by decide) hs hpl) fun σ H Q ⟨B, ρ, F, k, q⟩ => ?_
  unfold nDictT at q
  rw [run_bind] at q
  refine ⟨B, ρ, F, k, run_mono q (fun w hw q v F1 H1 e1 r1 => ?_) fun _ q => q⟩
  clear hw
  split at q
  · rename_i ds
    obtain ⟨a, xs, rfl, h1, h2⟩ := r1
    split at q
    · rename_i t ht
      by_cases nd : (t.map (·.1)).Nodup
      · rw [if_pos nd] at q
        obtain ⟨ps, kvs, rfl, g1, g2⟩ := kvsT_rep (K := X.K) h2 ht
        refine ⟨a, ps, kvs, rfl, .of (e1.sub _ _ h1), g1.mono e1.sub, ?_, fun p hp => ?_⟩
        · have := g2.1
          rw [List.map_map] at this
          have e : kvs.map (·.1) = t.map (·.1) := this
          rw [e]; exact nd
        · refine q p [p] F1 _ (e1.trans (.newO e1.sub hp)) ⟨rfl, _, upd_same, g2⟩ fun b hb => ?_
          rw [List.mem_singleton.mp hb]
          exact ⟨e1.hh.nn hp, e1.sub.nn hp, ⟨_, upd_same, fun _ h => nomatch h⟩⟩
      · rw [if_neg nd] at q; exact q.elim
    · exact q.elim
  · exact q.elim
end
end Vd

/-! Val36: min of two alike data, a < b of alike data. -/
namespace PySem.W
open PySem PySem.Spec PyProof.Rows
section
variable {prog : Program} {w : World} {A : Around} {E : Value → Shared → Prop} {s : Shared}
theorem min_two_data {a b : Value} {da db : PyData} {as bs : List Addr} {Q : Value → Shared → Prop} (hh : A.handled = none) (ra : Reads s.heap a da as) (rb : Reads s.heap b db bs) (hal : AlikeAll [da, db]) (hu : A.units + 1 + PyData.depthAll [da, db] < cLine)
    (h : ∀ h' tk, (∀ b o, s.heap.get? b = some o → h'.get? b = some o) → Q (if dataLt db da = true then b else a) { s with heap := h', toks := tk }) :
    wpAny (model prog w) A (call (.builtin "min") [a, b]) Q E s := by
  have hname : (toString "min" ++ toString ".loop" : String) = "min.loop" := by decide
  refine call_function_tree F.kind_min F.plain_min F.entry_min (F.args_min2 _ _) ?_
  show wpAny _ A.in1 (Builtin.Builtins.bindParams "min" ["key", "default"] 0 ⟨[], []⟩ >>= _) _ _ s
  refine wpAny_bind (wpAny_of_eq (show Builtin.Builtins.bindParams "min" ["key", "default"] 0 ⟨[], []⟩ = pure [none, none] from rfl) ?_)
  show wpAny _ A.in1 (newTuple [a, b] >>= _) _ _ s
  refine wpAny_bind (wpAny_newObj_type ?_)
  have hT : (s.heap.push { cls := .type "tuple", data := .seq #[a, b] }).IsTuple s.heap.objs.size #[a, b] := ⟨_, Heap.get?_push_size _ rfl, rfl, 0, by simp⟩
  have hkT : ∀ c o, s.heap.get? c = some o → (s.heap.push { cls := .type "tuple", data := .seq #[a, b] }).get? c = some o := fun c o e => Heap.get?_push_of_some _ e
  have hr : ReadsAll (s.heap.push { cls := .type "tuple", data := .seq #[a, b] }) (#[a, b] : Array Value).toList [da, db] _ := .cons (reads_keeps hkT ra) (.cons (reads_keeps hkT rb) .nil)
  refine wpAny_bind (iter_tupleW (s := { s with heap := s.heap.push { cls := .type "tuple", data := .seq #[a, b] } }) (A := A.in1) hh hT fun s₂ e W st hfp hw hk => ?_)
  refine wpAny_bind (wpAny_newObj_type ?_)
  have hSf : s₂.heap.objs.size ∉ _ := fun hm => Nat.lt_irrefl _ (hfp _ hm)
  rw [hname]
  refine wpAny_pure ⟨plainId_quiet F.plain_min_loop _, codeAny_min_loop_firstH W _ hw _ (cmpIn_lt (A := A.in1) (s := { s with heap := s.heap.push { cls := .type "tuple", data := .seq #[a, b] } }) hr hal (by show A.units + 1 + _ < _; exact hu)) s₂.heap.objs.size hSf (fresh_in hk) _ (show 0 < 2 by decide) (fun b o e => Heap.get?_push_of_some _ (hk b o e)) (W.frame 0 s₂ _ s₂.toks st (Nat.le_refl _) fun b _ o e => Heap.get?_push_of_some _ e) (Heap.get?_push_size _ rfl) fun v s' hP hm => ?_⟩
  obtain ⟨h', tk, rfl, hk'⟩ := moved_old e rfl (Moved.drop_new (tk := s₂.toks) hm (Nat.le_refl _))
  have := h h' tk fun c o e => hk' c o (hkT c o e)
  have hv : v = if dataLt db da = true then b else a := by
    have hP' : (#[a, b] : Array Value)[argBest (fun i j => dataLt ([da, db].getD i .none) ([da, db].getD j .none)) 1]? = some v := hP
    by_cases hba : dataLt db da = true
    · have e : argBest (fun i j => dataLt ([da, db].getD i .none) ([da, db].getD j .none)) 1 = 1 := by simp [argBest, hba]
      rw [e] at hP'
      rw [if_pos hba]; simpa using hP'.symm
    · have e : argBest (fun i j => dataLt ([da, db].getD i .none) ([da, db].getD j .none)) 1 = 0 := by simp [argBest, hba]
      rw [e] at hP'
      rw [if_neg hba]; simpa using hP'.symm
  rw [hv]; exact this
end
end PySem.W
namespace Vd
open L2 PyProof.Rows PySem PySem.Spec
section
variable {X : Cx} {U : WX}
def rMin2D (X : Cx) : List V → Hp → VK → Prop := fun vs H Q => ∃ F x y da db, vs = [x, y] ∧ Sub F H ∧ Ds F da x ∧ Ds F db y ∧ PySem.W.AlikeAll [da, db] ∧ (∀ e ∈ [da, db], e.depth ≤ 60) ∧ Q (if PySem.W.dataLt db da = true then y else x) H
theorem cr_min2D (hc : X.calm = true) (hu : X.A.units + 64 < cLine) : CallR X (.builtin "min") (rMin2D X) := by
  intro pins s σ H vs us Q I r h
  obtain ⟨F, x, y, da, db, rfl, sub, hx, hy, hal, hdep, q⟩ := h
  obtain ⟨u, v, rfl, r1, r2⟩ := vals2 r
  obtain ⟨as, h1⟩ := Dp.reads I da x _ (Ds.mono sub da x hx).dp r1
  obtain ⟨bs, h2⟩ := Dp.reads I db y _ (Ds.mono sub db y hy).dp r2
  have hdA := depthAll_le hdep
  refine PySem.W.min_two_data (I.ok.hd hc) h1 h2 hal (by omega) fun h' tk keep => ?_
  refine ⟨_, H, I.kept (t' := tk) keep, ?_, q⟩
  split
  · exact r2
  · exact r1
noncomputable def pMin2D : List W → R W
  | [.dat (.tuple a), .dat (.tuple b)] => @ite _ (PySem.W.AlikeAll [.tuple a, .tuple b] ∧ ∀ e ∈ ([.tuple a, .tuple b] : List Pd), e.depth ≤ 60) (Classical.propDecidable _) (.ok (.dat (.tuple (if PySem.W.dataLt (.tuple b) (.tuple a) = true then b else a)))) .no
  | _ => .no
theorem nx_pMin2D : NoxL pMin2D := fun ws c => by
  unfold pMin2D
  split
  · split <;> (intro h; cases h)
  · intro h; cases h
theorem cal_min2D (hc : X.calm = true) (hu : X.A.units + 65 < cLine) : VCal X (.builtin "min") pMin2D := .mk (cr_min2D hc (by omega)) fun F H xs ws Q s rb q => by
  unfold pMin2D at q
  split at q
  · rename_i a b
    split at q
    · rename_i h
      obtain ⟨x, t, rfl, h1, h2⟩ := rb
      obtain ⟨y, t2, rfl, h3, h4⟩ := h2
      cases h4
      refine ⟨F, x, y, .tuple a, .tuple b, rfl, s, h1, h3, h.1, h.2, ?_⟩
      refine q _ F H (.refl s) ?_
      show Ds F _ _
      by_cases c : PySem.W.dataLt (.tuple b) (.tuple a) = true
      · rw [if_pos c, if_pos c]; exact h3
      · rw [if_neg c, if_neg c]; exact h1
    · exact q.elim
  · exact q.elim
def rLtD (X : Cx) : R2 := fun x y H Q => ∃ F da db, Sub F H ∧ Ds F da x ∧ Ds F db y ∧ PySem.W.alike da db = true ∧ da ≠ .none ∧ da.depth ≤ 60 ∧ Q (.bl (PySem.W.dataLt da db)) H
theorem op_rLtD (hu : X.A.units + 64 < cLine) : OpR X (compareOp .Lt) (rLtD X) := by
  intro pins s σ H x y v u Q I rx ry h
  obtain ⟨F, da, db, sub, hx, hy, hal, hn, hd, q⟩ := h
  obtain ⟨as, h1⟩ := Dp.reads I da x _ (Ds.mono sub da x hx).dp rx
  obtain ⟨bs, h2⟩ := Dp.reads I db y _ (Ds.mono sub db y hy).dp ry
  refine PySem.W.lt_data h1 h2 hal hn (by have := Nat.min_le_left da.depth db.depth; omega) ⟨.bl _, H, I, rfl, q⟩
noncomputable def pLtD : W → W → R W
  | .dat (.tuple a), .dat (.tuple b) => @ite _ (PySem.W.alike (.tuple a) (.tuple b) = true ∧ (PyData.tuple a).depth ≤ 60) (Classical.propDecidable _) (.ok (bv (PySem.W.dataLt (.tuple a) (.tuple b)))) .no
  | _, _ => .no
theorem nx_pLtD : Nox pLtD := fun a b c => by
  unfold pLtD
  split
  · split <;> (intro h; cases h)
  · intro h; cases h
theorem op_pLtD (hu : X.A.units + 65 < cLine) : VOp X (compareOp .Lt) pLtD := by
  refine ⟨_, op_rLtD (by omega), fun F H x y a b Q s ra rb q => ?_⟩
  unfold pLtD at q
  split at q
  · rename_i da db
    split at q
    · rename_i h
      exact ⟨F, .tuple da, .tuple db, s, ra, rb, h.1, (fun e => nomatch e), h.2, q _ F H (.refl s) rfl⟩
    · exact q.elim
  · exact q.elim
def rGtD (X : Cx) : R2 := fun x y H Q => ∃ F da db, Sub F H ∧ Ds F da x ∧ Ds F db y ∧ PySem.W.alike da db = true ∧ da ≠ .none ∧ da.depth ≤ 60 ∧ Q (.bl (PySem.W.dataLt db da)) H
theorem op_rGtD (hu : X.A.units + 64 < cLine) : OpR X (compareOp .Gt) (rGtD X) := by
  intro pins s σ H x y v u Q I rx ry h
  obtain ⟨F, da, db, sub, hx, hy, hal, hn, hd, q⟩ := h
  obtain ⟨as, h1⟩ := Dp.reads I da x _ (Ds.mono sub da x hx).dp rx
  obtain ⟨bs, h2⟩ := Dp.reads I db y _ (Ds.mono sub db y hy).dp ry
  refine PySem.W.gt_data h1 h2 hal hn (by have := Nat.min_le_left da.depth db.depth; omega) ⟨.bl _, H, I, rfl, q⟩
noncomputable def pGtD : W → W → R W
  | .dat (.tuple a), .dat (.tuple b) => @ite _ (PySem.W.alike (.tuple a) (.tuple b) = true ∧ (PyData.tuple a).depth ≤ 60) (Classical.propDecidable _) (.ok (bv (PySem.W.dataLt (.tuple b) (.tuple a)))) .no
  | _, _ => .no
theorem nx_pGtD : Nox pGtD := fun a b c => by
  unfold pGtD
  split
  · split <;> (intro h; cases h)
  · intro h; cases h
theorem op_pGtD (hu : X.A.units + 65 < cLine) : VOp X (compareOp .Gt) pGtD := by
  refine ⟨_, op_rGtD (by omega), fun F H x y a b Q s ra rb q => ?_⟩
  unfold pGtD at q
  split at q
  · rename_i da db
    split at q
    · rename_i h
      exact ⟨F, .tuple da, .tuple db, s, ra, rb, h.1, (fun e => nomatch e), h.2, q _ F H (.refl s) rfl⟩
    · exact q.elim
  · exact q.elim
end
end Vd

/-! Val37: list(d) of a dict: its keys. -/
namespace Vd
open L2 PyProof.Rows PySem PySem.Spec
section
variable {X : Cx} {U : WX}
def pListD : List W → R W
  | [.dK kvs] => .ok (.dat (.list (kvs.map fun p => keyP p.1)))
  | [.dT kvs] => .ok (.dat (.list (kvs.map fun p => keyTP p.1)))
  | _ => .no
theorem nx_pListD : NoxL pListD := fun ws c => by unfold pListD; split <;> (intro h; cases h)
theorem cal_listD (hc : X.calm = true) : VCal X (.type "list") pListD := .mk (CallR.or (call_listD hc) (call_list_dT hc)) fun F H xs ws Q s rb q => by
  unfold pListD at q
  split at q
  · obtain ⟨v, r, rfl, ⟨a, ks, rfl, h1, h2⟩, h3⟩ := rb
    cases h3
    refine .inl ⟨a, ks, rfl, h1, fun p hp => q _ _ _ (.new s hp) ⟨p, _, rfl, upd_same, ?_⟩⟩
    rw [← h2.keysK, show (ks.map fun p => keyP p.1) = (ks.map (·.1)).map keyP by rw [List.map_map]; rfl, show (ks.map fun p => kV p.1) = (ks.map (·.1)).map kV by rw [List.map_map]; rfl]
    exact (DsL.map (f := keyP) (g := kV) ds_key).mpr rfl
  · obtain ⟨v, r, rfl, ⟨a, ks, rfl, h1, h2⟩, h3⟩ := rb
    cases h3
    have e1 := absorb_ext s
    refine .inr ⟨a, ks, rfl, h1, fun p bs hp hb => q _ _ _ (e1.trans (.new e1.sub hp)) ⟨p, _, rfl, upd_same, ?_⟩⟩
    rw [← h2.keysK]
    exact (isKeys_ds (fun b ks hb => absorb_tup hb) hb).mono (.upd (e1.sub.nn hp))
  · exact q.elim
end
end Vd

/-! Val38: text.index(text). -/
namespace Vd
open L2 PyProof.Rows PySem PySem.Spec PySem.Builtin.Str
section
variable {X : Cx} {U : WX}
theorem mt_indexS : MtR X "str.index" (fun x xs H Q => ∃ (a b : Str) (i : Nat) (rest : List Nat), x = .str a ∧ xs = [.str b] ∧ occurrences a b 0 a.length 1 = i :: rest ∧ Q (.int (i : Nat)) H) := by
  intro pins s σ H x xs v us Q I rx rs h
  obtain ⟨a, b, i, rest, rfl, rfl, ho, h⟩ := h
  obtain ⟨t, rfl⟩ := rx
  cases rs with
  | cons r1 rs =>
    cases rs
    obtain ⟨u, rfl⟩ := r1
    exact PySem.SC.index ho ⟨.int (i : Nat), H, I.tok (s.toks + 1), ⟨_, rfl⟩, h⟩
def pIndexS (x : Str) (w : W) : R W := match strA w with
  | some y => match occurrences x y 0 x.length 1 with
    | i :: _ => .ok (wI (i : Nat))
    | [] => .no
  | none => .no
theorem ve_indexS {o e : Expr} {f g : Rho → R W} {apos pos : Pos} (ho : VB X U o f) (he : VB X U e g) (hs : starEach [e] X.env = [(false, eval e X.env)] := by rfl) (hbase : attributeBase o "index" X.env (eval o X.env) = eval o X.env := by rfl) (hline : (apos.endLine == pos.line) = true := by rfl) :
    VE X U (.Call (.Attribute o "index" apos) [e] [] pos) (fS1 pIndexS f g) := PE.imp (pe_m1 PySem.F.slot_str_index PySem.F.type_str_index mt_indexS ho he hs hbase hline) fun σ H Q q => m1_core (fun a b c => by unfold pIndexS; split <;> (try split) <;> (intro h; cases h)) (fun F H z b y Q s rb q => by
      unfold pIndexS at q
      split at q
      · rename_i y' hy
        split at q
        · rename_i i r hi
          obtain rfl := strA_rep rb hy
          exact ⟨_, _, i, r, rfl, rfl, hi, q _ F H (.refl s) rfl⟩
        · exact q.elim
      · exact q.elim) q
end
theorem idx_of_first : ∀ (l : List Nat) (c i : Nat), l[i]? = some c → (∀ k, k < i → l[k]? ≠ some c) → l.idxOf c = i
  | [], _, _, h, _ => by simp at h
  | a :: l, c, 0, h, _ => by simp at h; subst h; simp
  | a :: l, c, i + 1, h, hn => by
    have h0 : a ≠ c := fun e => hn 0 (by omega) (by simp [e])
    have := idx_of_first l c i (by simpa using h) fun k hk => by
      have := hn (k + 1) (by omega)
      simpa using this
    have h1 : (a == c) = false := by simpa using h0
    rw [List.idxOf_cons, this, h1]; rfl
theorem pIndexS_S (l : List Nat) {c : Nat} (h : c ∈ l) : pIndexS (S l) (wS [c]) = .ok (wI (l.idxOf c : Nat)) := by
  have hs : strA (wS [c]) = some (S [c]) := rfl
  unfold pIndexS
  rw [hs]
  show (match occurrences (S l) (S [c]) 0 (S l).length 1 with | i :: _ => R.ok (wI (i : Nat)) | [] => .no) = _
  have hcp : (S l).cps.toList = l := by simp [S]
  have at_ : ∀ i, StrLaws.At (S l) (S [c]) (S l).length i ↔ l[i]? = some c := fun i => by
    have := StrLaws.subAt_one (S l) c i
    rw [hcp] at this
    exact this
  rcases StrLaws.occ_head (S l) (S [c]) 1 (Nat.le_refl 1) with ⟨h0, hn⟩ | ⟨i, r, h0, hi, hn⟩
  · obtain ⟨j, hj⟩ := List.mem_iff_getElem?.mp h
    exact (hn j ((at_ j).mpr hj)).elim
  · rw [h0]
    show R.ok (wI (i : Nat)) = _
    rw [idx_of_first l c i ((at_ i).mp hi) fun k hk q => hn k hk ((at_ k).mpr q)]
end Vd

/-! Val39: list.index of any shaped datum. -/
namespace Vd
open L2 PyProof.Rows PySem PySem.Spec
def asDl : W → Option (List Pd)
  | .dat (.list ds) => some ds
  | _ => none
def pIndexD (ds : List Pd) (w : W) : R W := match asPd w with
  | some d => if SeqAt.shaped (.list ds) = true ∧ SeqAt.shaped d = true then (match ds.findIdx? (fun z => PyData.eqv z d) with
    | some j => .ok (wI (j : Nat))
    | none => .no) else .no
  | none => .no
def fI1D (f g : Rho → R W) : Rho → R W := fun ρ => (f ρ).bind fun x => (opR (asDl x)).bind fun ds => (g ρ).bind fun y => pIndexD ds y
section
variable {X : Cx} {U : WX}
theorem nx_pIndexD (a : List Pd) (b : W) (c : Str) : pIndexD a b ≠ .ex c := by
  unfold pIndexD
  split
  · split
    · split <;> (intro h; cases h)
    · intro h; cases h
  · intro h; cases h
theorem ve_indexD (hu : X.A.units + 65 < cLine) {o e : Expr} {f g : Rho → R W} {apos pos : Pos} (ho : VB X U o f) (he : VB X U e g) (hbase : attributeBase o "index" X.env (eval o X.env) = eval o X.env := by rfl) (hline : (apos.endLine == pos.line) = true := by rfl)
    (hs1 : starEach [e] X.env = (false, eval e X.env) :: starEach [] X.env := by rfl) : VE X U (.Call (.Attribute o "index" apos) [e] [] pos) (fI1D f g) := by
  refine PE.imp (pe_bm PySem.F.plainAttrs_list PySem.F.slot_list_index PySem.F.type_list_index (mt_indexD hu) ho (pa_cons he pa_nil hs1) hbase (by rw [hs1]; rfl) hline hs1 rfl) fun σ H Q q => ?_
  obtain ⟨B, ρ, F, k, q⟩ := q
  unfold fI1D at q
  rw [run_bind] at q
  refine ⟨B, ρ, F, k, run_mono q (fun a _ q x F1 H1 e1 r1 => ?_) fun _ q => q⟩
  obtain ⟨ds, hds, q2⟩ := opR_run q
  clear q
  cases a with
  | kdat _ => cases hds
  | dK _ => cases hds
  | dT _ => cases hds
  | fn _ => cases hds
  | obj _ _ => cases hds
  | dat d =>
    cases d with
    | none => cases hds
    | bool _ => cases hds
    | int _ => cases hds
    | str _ => cases hds
    | tuple _ => cases hds
    | dict _ => cases hds
    | list ds' =>
      have hds : some ds' = some ds := hds
      obtain rfl := Option.some.inj hds
      obtain ⟨p, xs, rfl, h1, h2⟩ := r1
      refine ⟨.inl ⟨rfl, _, .of h1⟩, ?_⟩
      rw [run_bind] at q2
      refine ⟨B, ρ, F1, k.ext e1, run_mono q2 (fun y _ q yv F2 H2 e2 r2 => ?_) fun c q C H' h1 h2 => q C H' h1 (e1.hh.trans h2)⟩
      have q := run_nox (X := X) (U := U) (σ := σ) (H := H2) (fun c => nx_pIndexD ds' y c) (run_mono q (fun w _ q v F' H' e r => q v F' H' ((e1.trans e2).trans e) r) fun c q C H' h1 h2 => q C H' h1 ((e1.trans e2).hh.trans h2))
      unfold pIndexD at q
      split at q
      · rename_i d hd
        obtain ⟨hl, q⟩ := run_if q
        split at q
        · rename_i j hj
          obtain ⟨hjl, hjp, hjn⟩ := List.findIdx?_eq_some_iff_getElem.mp hj
          refine ⟨p, yv, d, ds', j, ds'[j], rfl, rfl, .lst (.of (e2.hh _ _ h1)) ((h2.mono e2.ff).mono e2.sub).dp, r2.dp e2.sub hd, hl.1, hl.2, List.getElem?_eq_getElem hjl, hjp, fun m z' hm hz => ?_, q _ F2 H2 (.refl e2.sub) rfl⟩
          obtain ⟨hml, rfl⟩ := List.getElem?_eq_some_iff.mp hz
          have := hjn m hm
          simpa using this
        · exact q.elim
      · exact q.elim
end
end Vd

/-! Val40: str(number), text.split(text). -/
namespace Vd
open L2 PyProof.Rows PySem PySem.Spec PySem.Builtin.Str
def pStrI : List W → R W
  | [.dat (.int i)] => if i.natAbs.log2 < 1920 then .ok (.dat (.str (toString i))) else .no
  | _ => .no
def pSplit (a : Str) (b : W) : R W := match strA b with
  | some y => if (y.length == 0) = false ∧ a.length + 2 ≤ sizeLine then .ok (.dat (.list ((Txt.split a y).map .str))) else .no
  | none => .no
theorem nx_pStrI : NoxL pStrI := fun ws c => by
  unfold pStrI
  split
  · split <;> (intro h; cases h)
  · intro h; cases h
section
variable {X : Cx} {U : WX}
theorem cal_strI : VCal X (.type "str") pStrI := .mk call_str_int fun F H xs ws Q s rb q => by
  unfold pStrI at q
  split at q
  · obtain ⟨v, r, rfl, h1, h3⟩ := rb
    cases h3
    cases h1
    obtain ⟨hl, q⟩ := run_if q
    exact ⟨_, rfl, hl, q _ F H (.refl s) rfl⟩
  · exact q.elim
theorem ds_str1 {F : Hp} : ∀ (a : Str) v, Ds F (.str a) v ↔ v = V.str a := fun a v => Iff.rfl
theorem ve_split {o e : Expr} {f g : Rho → R W} {apos pos : Pos} (ho : VB X U o f) (he : VB X U e g) (hs : starEach [e] X.env = [(false, eval e X.env)] := by rfl) (hbase : attributeBase o "split" X.env (eval o X.env) = eval o X.env := by rfl) (hline : (apos.endLine == pos.line) = true := by rfl) :
    VE X U (.Call (.Attribute o "split" apos) [e] [] pos) (fS1 pSplit f g) := PE.imp (pe_m1 PySem.F.slot_str_split PySem.F.type_str_split mt_split ho he hs hbase hline) fun σ H Q q => m1_core (fun a b c => by unfold pSplit; split <;> (try split) <;> (intro h; cases h)) (fun F H z b y Q s rb q => by
      unfold pSplit at q
      split at q
      · rename_i y' hy
        obtain ⟨hl, q⟩ := run_if q
        obtain rfl := strA_rep rb hy
        refine ⟨_, _, rfl, rfl, hl.1, hl.2, fun p hp => q _ _ _ (.new s hp) ⟨p, _, rfl, upd_same, ?_⟩⟩
        exact (DsL.map (f := PyData.str) (g := V.str) ds_str1).mpr rfl
      · exact q.elim) q
end
end Vd

/-! Val41: a store into an own list: row[place] = value. -/
namespace Vd
open L2 PyProof.Rows PySem PySem.Spec
def gLput (i : Nat) (kf vf : Rho → R W) : Rho → R Out := fun ρ => (vf ρ).bind fun v => (asDat v).bind fun dv => match ρ[i]? with
  | some (.ow (.L ds)) => (kf ρ).bind fun y => (asN y).bind fun n => (opR (ixN ds.length n)).bind fun j => .ok (.nx (ρ.set i (.ow (.L (ds.set j dv)))))
  | _ => .no
section
variable {X : Cx} {U : WX}
theorem vs_lput (i : Nat) {x : Str} {ke ve : Expr} {kf vf : Rho → R W} {p p2 pos : Pos} (hk : VE X U ke kf) (hvv : VE X U ve vf) (hN : X.N[i]? = some x := by rfl) (hv : Vis X.env.scope x := by first | exact Or.inl rfl | exact Or.inr (Or.inl rfl) | exact Or.inr (Or.inr rfl)) (hd : (x == ("__debug__" : Str)) = false := by decide)
    (hcd : (x == ("__classdict__" : Str)) = false := by decide)
    (ha : ∀ v, assign (.Subscript (.Name x p) ke p2) X.env v = (do
      let ov ← holding [v] (eval (.Name x p) X.env)
      let iv ← holding [v, ov] (eval ke X.env)
      standAt p2
      holding [v, ov, iv] (setItem ov iv v)
      release [v, ov, iv] []) := by intro _; rfl)
    (hs : swapsWithSole [.Subscript (.Name x p) ke p2] ve pos.line X.env = pure false := by rfl) (hw : swappedStores [.Subscript (.Name x p) ke p2] ve X.env = pure none := by rfl)
    (h1 : (assignEach [.Subscript (.Name x p) ke p2] X.env).map (·.2) = [assign (.Subscript (.Name x p) ke p2) X.env] := by rfl) :
    VS X U (.Assign [.Subscript (.Name x p) ke p2] ve pos) (gLput i kf vf) := by
  refine PS.imp (ps_asg hvv (pg_sub (pe_var hN hv hd hcd) hk set_list ha) hs hw h1) fun D σ H ⟨B, ρ, F, k, q⟩ => ?_
  unfold gLput at q
  rw [run_bind] at q
  refine ⟨B, ρ, F, k, run_mono q (fun w _ q v F1 H1 e1 r1 => ?_) fun c q => ex_of k q⟩
  obtain ⟨dv, ew, q2⟩ := asDat_run q
  subst ew
  clear q
  have q := q2
  clear q2
  have k1 := k.ext e1
  split at q
  · rename_i ds hds
    obtain ⟨a, l, ha1, ho, _⟩ := k1.getOw hds
    rw [run_bind] at q
    refine ⟨.ref a, ha1, B, ρ, F1, k1, run_mono q (fun y _ q yv F2 H2 e2 r2 => ?_) fun c q => ex_of k1 q⟩
    obtain ⟨n, rfl, q⟩ := asN_run q
    obtain ⟨j, hj, q⟩ := opR_run q
    obtain ⟨a', l', ha', ho', up⟩ := (k1.ext e2).getOw hds
    rw [ha1] at ha'; cases ha'
    obtain ⟨rfl, xs', hx', hr'⟩ := ho'
    cases r2
    refine ⟨a, xs', n, j, rfl, rfl, hx', by rw [hr'.len]; exact hj, ?_⟩
    exact q F2 σ _ (up a _ _ (by simp) (fun _ h => nomatch h) ⟨rfl, _, upd_same, hr'.set (r1.mono e2.ff) j⟩)
  · exact q.elim
end
def nLstRg (f : Rho → R W) : Rho → R OT := fun ρ => (f ρ).bind fun w => (pLstRg w).bind fun x => match x with
  | .dat (.list ds) => .ok (.L ds)
  | _ => .no
section
variable {X : Cx} {U : WX}
theorem vn_lstrng1 {a : Expr} {f : Rho → R W} {p p2 pos pos2 : Pos} (hc : X.calm = true) (hm : X.mg "list" = none) (hm2 : X.mg "range" = none) (ha : VB X U a f) (hg : Gl X "list" := by rfl) (hg2 : Gl X "range" := by rfl)
    (na : starEach [a] X.env = (false, eval a X.env) :: starEach [] X.env := by rfl) (nb : starEach [.Call (.Name "range" p2) [a] [] pos2] X.env = (false, eval (.Call (.Name "range" p2) [a] [] pos2) X.env) :: starEach [] X.env := by rfl) :
    VN X U (.Call (.Name "list" p) [.Call (.Name "range" p2) [a] [] pos2] [] pos) (nLstRg f) := by
  refine PE.imp (pe_listRg hc hg hm (prg_1 hg2 hm2 ha na) nb) fun σ H Q ⟨B, ρ, F, k, q⟩ => ?_
  unfold nLstRg at q
  rw [run_bind] at q
  refine ⟨B, ρ, F, k, run_mono q (fun w hw q v F1 H1 e1 r1 => ?_) fun _ q => q⟩
  clear hw
  unfold pLstRg at q
  split at q
  · rename_i n
    rw [run_bind] at q
    obtain ⟨hl, q⟩ := run_if q
    refine ⟨n, r1, .of_le (by omega) hl.2 (by omega) hl.1, fun l hl2 => ?_⟩
    have e : rgV 0 n = ((List.range n.toNat).map fun k : Nat => (k : Int)).map V.int := by
      unfold rgV; rw [List.map_map, Int.sub_zero]; apply List.map_congr_left; intro k _; simp
    have e2 : rgD n.toNat = ((List.range n.toNat).map fun k : Nat => (k : Int)).map .int := by
      unfold rgD; rw [List.map_map]; rfl
    refine q l [l] F1 _ (e1.trans (.newO e1.sub hl2)) ⟨rfl, _, upd_same, ?_⟩ fun b hb => ?_
    · rw [e, e2]
      exact dsL_ints _
    · rw [List.mem_singleton.mp hb]
      exact ⟨e1.hh.nn hl2, e1.sub.nn hl2, ⟨_, upd_same, fun _ h => nomatch h⟩⟩
  · exact q.elim
end
end Vd

/-! Val42: a call of a def without arguments. -/
namespace Vd
open L2 PyProof.Rows PySem PySem.Spec
section
variable {X : Cx} {U : WX}
theorem ve_call0 {k j : Nat} {x : Str} {G : List W → R W} {p pos : Pos} (F : Fn X.prog X.w X.K X.mg X.base k x 0 G) (tk : L2N.Takes X U) (hr : Room j X.A) (hk : k ≤ j) (hg : Gl X x := by rfl) (hdb : (x == ("__debug__" : Str)) = false := by decide) :
    VE X U (.Call (.Name x p) [] [] pos) (fCal G aNil) := by
  obtain ⟨f, fd, ps, hn, h1, h2, h3, h4⟩ := F.ex
  refine ⟨fun pins s σ H Q I ⟨B, ρ, F, ok, q⟩ => ?_⟩
  refine wpAny_Call_Name_kw (ld_glob I hg h2 ?_ hdb)
  have q : run (G []) _ _ := q
  exact PySem.W.callWith_K0 I.kIn h3 (run_fnS (us := []) h1 (hr.mono hk) h4 (L2N.passAt tk σ) I .nil ⟨F, [], rfl, ok.sub, rfl, q⟩)
end
end Vd

/-! Val43: len(set(text)), as an expression. -/
namespace Vd
open L2 PyProof.Rows PySem PySem.Spec
section
variable {X : Cx} {U : WX}
theorem cr_lenX : CallR X (.builtin "len") (fun vs H Q => ∃ (a : Addr) (m : List Str), vs = [V.ref a] ∧ H a = some (SetXO X.prog X.w a m) ∧ m.length < 64 ∧ Q (.int (m.length : Int)) H) := by
  intro pins s σ H vs us Q I r h
  obtain ⟨a, m, rfl, ha, few, q⟩ := h
  obtain ⟨D, ho, R⟩ := (I.hok a _ ha).1
  rw [Vals.ref1 r]
  have hsz : D.1.size = m.length := R.ok.sz
  refine call_len_set ho ⟨rfl, rfl, rfl⟩ rfl R.ok.fit (by omega) ⟨.int (D.1.size : Int), H, I.tok _, ⟨_, rfl⟩, ?_⟩
  rw [hsz]; exact q
def pLenSetX : W → R W
  | .dat (.str x) => if x.cps.size < 64 then .ok (wI (ddup (sgn x)).length) else .no
  | _ => .no
theorem ve_lensetX {e : Expr} {f : Rho → R W} {p p2 pos pos2 : Pos} (hc : X.calm = true) (hu : X.A.units + 65 < cLine) (hm : X.mg "len" = none) (hm2 : X.mg "set" = none) (he : VE X U e f) (hg : Gl X "len" := by rfl) (hg2 : Gl X "set" := by rfl)
    (hs : starEach [e] X.env = (false, eval e X.env) :: starEach [] X.env := by rfl) (hpl : (backTo pos2 (starEach [] X.env)).any (·.1) = false := by rfl)
    (hs2 : starEach [.Call (.Name "set" p2) [e] [] pos2] X.env = (false, eval (.Call (.Name "set" p2) [e] [] pos2) X.env) :: starEach [] X.env := by rfl) (hpl2 : (backTo pos (starEach [] X.env)).any (·.1) = false := by rfl) :
    VE X U (.Call (.Name "len" p) [.Call (.Name "set" p2) [e] [] pos2] [] pos) (f1 pLenSetX f) := by
  refine PE.imp (pe_callB cr_lenX hg hm PySem.boot_len (pa_cons (pe_callTy (cr_setX hc) hg2 hm2 PyProof.Rows.boot_set (pa_cons he pa_nil hs) (by decide) (by decide) hs hpl) pa_nil hs2) (by decide) (by decide) hs2 hpl2) fun σ H Q ⟨B, ρ, F, k, q⟩ => ?_
  unfold f1 at q
  rw [run_bind] at q
  refine ⟨B, ρ, F, k, run_mono q (fun w _ q v F1 H1 e1 r1 => ?_) fun _ q => q⟩
  unfold pLenSetX at q
  split at q
  · rename_i x _
    obtain ⟨hx, q⟩ := run_if q
    have r1 : v = V.str x := r1
    subst r1
    refine ⟨x, rfl, hx, fun a m ha nd hm => ?_⟩
    have hlen : m.length < 64 := by
      have := Bf.nodup_le nd (m := sgn x) fun t ht => (hm t).mp ht
      have hs : (sgn x).length = x.cps.size := by unfold sgn; rw [List.length_map, Array.length_toList]
      omega
    have hd : m.Perm (ddup (sgn x)) := (List.perm_ext_iff_of_nodup nd (ddup_nodup _)).mpr fun t => (hm t).trans ddup_mem.symm
    refine ⟨a, m, rfl, upd_same, hlen, ?_⟩
    rw [hd.length_eq]
    exact q _ _ _ (e1.trans (.newO e1.sub ha)) rfl
  · exact q.elim
theorem pLenSetX_R (l : List Nat) (h : l.length < 64) : pLenSetX (.dat (.str (S l))) = .ok (wI (ddup l).length) := by
  have hs : (S l).cps.size = l.length := by simp [S]
  show (if (S l).cps.size < 64 then R.ok (wI (ddup (sgn (S l))).length) else .no) = _
  rw [if_pos (by rw [hs]; exact h)]
  congr 3
  have e : sgn (S l) = l.map fun c => ⟨#[c]⟩ := by unfold sgn; simp [S]
  rw [e]
  have inj : ∀ a c : Nat, ((⟨#[a]⟩ : Str) = ⟨#[c]⟩) → a = c := fun a c h => by simpa using congrArg Str.cps h
  clear e hs h
  induction l with
  | nil => rfl
  | cons a l ih =>
    have hh : ((⟨#[a]⟩ : Str) ∈ l.map fun c => (⟨#[c]⟩ : Str)) ↔ a ∈ l := by
      rw [List.mem_map]
      exact ⟨fun ⟨c, hc, e⟩ => (inj _ _ e) ▸ hc, fun h => ⟨a, h, rfl⟩⟩
    simp only [List.map_cons, ddup]
    by_cases c : a ∈ l
    · rw [if_pos c, if_pos (hh.mpr c)]; exact ih
    · rw [if_neg c, if_neg (fun q => c (hh.mp q))]; simp only [List.length_cons, ih]
end
end Vd

/-! Val63: dict(zip(list of texts, text)). -/
namespace PySem
open Sem (wp)
section
variable {prog : Program} {w : World} {A : Around} {E : Value → Shared → Prop} {s : Shared} {z TI TO i1 i2 T : Addr} {fp1 fp2 : List Addr} {n1 n2 i : Nat} {P1 P2 : Nat → Value → Prop} {St1 St2 : Nat → Heap → Prop} {f : Bool} {oT : Obj}
theorem zdHeld_item {Q : Value → Shared → Prop} (S : ZipSep2 z TI TO i1 i2 fp1 fp2) (D1 : Draws prog w A i1 fp1 n1 P1 St1) (D2 : Draws prog w A i2 fp2 n2 P2 St2)
    (hz : IsZipHeld s.heap z TI TO T f) (hT : s.heap.get? T = some oT) (hTI : IsTupOf2 s.heap TI (.ref i1) (.ref i2)) (st1 : St1 i s.heap) (st2 : St2 i s.heap) (hlt1 : i < n1) (hlt2 : i < n2)
    (hQ : ∀ x y h' tk, P1 i x → P2 i y → IsZipHeld h' z TI TO T true → St1 (i + 1) h' → St2 (i + 1) h' → IsTupOf2 h' s.heap.objs.size x y → h'.objs.size = s.heap.objs.size + 1 →
      (∀ c o, c ≠ z → c ≠ i1 → c ≠ i2 → s.heap.get? c = some o → h'.get? c = some o) → Q (.ref s.heap.objs.size) { s with heap := h', toks := tk }) :
    wpAny (model prog w) A (Builtin.«zip.__next__» ⟨[.ref z], []⟩) (fun fin s' => ∃ v, fin = .done (.ret v) ∧ Q v s') E s := by
  obtain ⟨hp, g, d, tk0, os⟩ := s
  show wpAny _ _ (field (.ref z) 2 >>= _) _ _ _
  refine wpAny_bind (wpAny_field hz rfl (x := .bool false) rfl ?_)
  show wpAny _ _ (field (.ref z) 3 >>= _) _ _ _
  refine wpAny_bind (wpAny_field hz rfl (x := .ref TI) rfl ?_)
  refine wpAny_bind (wpAny_seqItems hTI rfl ?_)
  show wpAny _ _ (Builtin.SmallTypes.ownedTupleIsFree (.ref z) >>= _) _ _ _
  refine wpAny_bind (wpAny_tupleHeld_zip hz hT fun h₁ hz₁ hs₁ => ?_)
  simp only [Bool.false_eq_true, if_false]
  replace hs₁ : Heap.SameBut z hp h₁ := hs₁
  refine wpAny_bind ?_
  rw [← Array.forIn_toList]
  simp only [List.forIn_cons, List.forIn_nil]
  refine wpAny_bind (wpAny_bind (wpAny_holding ?_))
  show wpAny _ _ (Builtin.SmallTypes.nextOf (.ref i1) >>= _) _ _ ⟨h₁, g, d, tk0, os⟩
  refine wpAny_bind (D1.item i _ _ _ hlt1 (D1.over st1 hs₁ S.zf1) fun x1 p1 tk1 hx1 sn1 hp1 => wpAny_pure ?_)
  replace hp1 : Heap.SameBut i1 h₁ p1 := hp1
  refine wpAny_pure ?_
  refine wpAny_bind (wpAny_bind (wpAny_holding ?_))
  show wpAny _ _ (Builtin.SmallTypes.nextOf (.ref i2) >>= _) _ _ ⟨p1, g, d, tk1, os⟩
  refine wpAny_bind (D2.item i _ _ _ hlt2 (D2.over (D2.over st2 hs₁ S.zf2) hp1 S.sep1_2) fun x2 p2 tk2 hx2 sn2 hp2 => wpAny_pure ?_)
  replace hp2 : Heap.SameBut i2 p1 p2 := hp2
  refine wpAny_pure (wpAny_pure ?_)
  show wpAny _ _ (newTuple [x1, x2] >>= _) _ _ ⟨p2, g, d, tk2, os⟩
  refine wpAny_bind (wpAny_newTuple ?_)
  have hsz : p2.objs.size = hp.objs.size := by rw [hp2.1, hp1.1, hs₁.1]
  have hz₃ : IsZipHeld p2 z TI TO T true := hp2.extBut _ _ S.zi2 (hp1.extBut _ _ S.zi1 hz₁)
  have hk : ∀ c o, c ≠ z → c ≠ i1 → c ≠ i2 → hp.get? c = some o → p2.get? c = some o := fun c o c1 c2 c3 e => hp2.extBut _ _ c3 (hp1.extBut _ _ c2 (hs₁.extBut _ _ c1 e))
  refine wpAny_pure ⟨_, rfl, ?_⟩
  show Q (.ref p2.objs.size) _
  have hpr : IsTupOf2 (p2.push { cls := .type "tuple", data := .seq #[x1, x2] }) p2.objs.size x1 x2 := Heap.get?_push_size _ rfl
  have hz4 : (p2.push { cls := .type "tuple", data := .seq #[x1, x2] }).objs.size = p2.objs.size + 1 := Heap.size_push ..
  rw [hsz] at hpr hz4 ⊢
  exact hQ x1 x2 _ tk2 hx1 hx2 (Heap.get?_push_of_some _ hz₃) (D1.frame _ _ _ (D1.over sn1 hp2 S.sep2_1) fun b hb o e => Heap.get?_push_of_some _ e) (D2.frame _ _ _ sn2 fun b hb o e => Heap.get?_push_of_some _ e) hpr hz4 fun c o c1 c2 c3 e => Heap.get?_push_of_some _ (hk c o c1 c2 c3 e)
theorem zdHeld_end {Q : Fin → Shared → Prop} (S : ZipSep2 z TI TO i1 i2 fp1 fp2) (D1 : Draws prog w A i1 fp1 n1 P1 St1) (D2 : Draws prog w A i2 fp2 n2 P2 St2)
    (hz : IsZipHeld s.heap z TI TO T f) (hT : s.heap.get? T = some oT) (hTI : IsTupOf2 s.heap TI (.ref i1) (.ref i2)) (st1 : St1 i s.heap) (st2 : St2 i s.heap) (hle1 : i ≤ n1) (hle2 : i ≤ n2) (hend : i = n1 ∨ i = n2)
    (hE : ∀ h' tk e, (∀ c o, c ≠ z → c ≠ i1 → c ≠ i2 → s.heap.get? c = some o → h'.get? c = some o) → (∃ o, h'.get? e = some o ∧ o.cls = .type "StopIteration") → E (.ref e) { s with heap := h', toks := tk }) :
    wpAny (model prog w) A (Builtin.«zip.__next__» ⟨[.ref z], []⟩) Q E s := by
  obtain ⟨hp, g, d, tk0, os⟩ := s
  show wpAny _ _ (field (.ref z) 2 >>= _) _ _ _
  refine wpAny_bind (wpAny_field hz rfl (x := .bool false) rfl ?_)
  show wpAny _ _ (field (.ref z) 3 >>= _) _ _ _
  refine wpAny_bind (wpAny_field hz rfl (x := .ref TI) rfl ?_)
  refine wpAny_bind (wpAny_seqItems hTI rfl ?_)
  show wpAny _ _ (Builtin.SmallTypes.ownedTupleIsFree (.ref z) >>= _) _ _ _
  refine wpAny_bind (wpAny_tupleHeld_zip hz hT fun h₁ hz₁ hs₁ => ?_)
  simp only [Bool.false_eq_true, if_false]
  replace hs₁ : Heap.SameBut z hp h₁ := hs₁
  refine wpAny_bind ?_
  rw [← Array.forIn_toList]
  simp only [List.forIn_cons, List.forIn_nil]
  refine wpAny_bind (wpAny_bind (wpAny_holding ?_))
  show wpAny _ _ (Builtin.SmallTypes.nextOf (.ref i1) >>= _) _ _ ⟨h₁, g, d, tk0, os⟩
  by_cases hlt1 : i < n1
  · refine wpAny_bind (D1.item i _ _ _ hlt1 (D1.over st1 hs₁ S.zf1) fun x1 p1 tk1 hx1 sn1 hp1 => wpAny_pure ?_)
    replace hp1 : Heap.SameBut i1 h₁ p1 := hp1
    refine wpAny_pure ?_
    have hi2 : i = n2 := by omega
    refine wpAny_bind (wpAny_bind (wpAny_holding ?_))
    show wpAny _ _ (Builtin.SmallTypes.nextOf (.ref i2) >>= _) _ _ ⟨p1, g, d, tk1, os⟩
    refine wpAny_bind (D2.done ⟨p1, g, d, tk1, os⟩ _ _ (by rw [← hi2]; exact (D2.over (D2.over st2 hs₁ S.zf2) hp1 S.sep1_2)) fun q e hq he => ?_)
    replace hq : Heap.ExtBut i2 p1 q := hq
    exact hE q tk1 e (fun c o c1 c2 c3 x => hq _ _ c3 (hp1.extBut _ _ c2 (hs₁.extBut _ _ c1 x))) he
  · have hi1 : i = n1 := by omega
    refine wpAny_bind (D1.done ⟨h₁, g, d, tk0, os⟩ _ _ (by rw [← hi1]; exact (D1.over st1 hs₁ S.zf1)) fun q e hq he => ?_)
    replace hq : Heap.ExtBut i1 h₁ q := hq
    exact hE q tk0 e (fun c o c1 c2 c3 x => hq _ _ c2 (hs₁.extBut _ _ c1 x)) he
theorem zdHeld_nextItem {Q : Option Value → Shared → Prop} (S : ZipSep2 z TI TO i1 i2 fp1 fp2) (D1 : Draws prog w A.in1 i1 fp1 n1 P1 St1) (D2 : Draws prog w A.in1 i2 fp2 n2 P2 St2)
    (hz : IsZipHeld s.heap z TI TO T f) (hT : s.heap.get? T = some oT) (hTI : IsTupOf2 s.heap TI (.ref i1) (.ref i2)) (st1 : St1 i s.heap) (st2 : St2 i s.heap) (hlt1 : i < n1) (hlt2 : i < n2)
    (hQ : ∀ x y h' tk, P1 i x → P2 i y → IsZipHeld h' z TI TO T true → St1 (i + 1) h' → St2 (i + 1) h' → IsTupOf2 h' s.heap.objs.size x y → h'.objs.size = s.heap.objs.size + 1 →
      (∀ c o, c ≠ z → c ≠ i1 → c ≠ i2 → s.heap.get? c = some o → h'.get? c = some o) → Q (some (.ref s.heap.objs.size)) { s with heap := h', toks := tk }) : wpAny (model prog w) A (pyNext (.ref z)) Q E s := by
  have hTy : s.TypeIs (.ref z) "zip" := ⟨_, hz, rfl⟩
  unfold pyNext
  exact wpAny_bind (wpAny_attempt (wpAny_callSpecial?_slot (name := Str.ofString "__next__") hTy F.slot_zip_next
    (wpAny_call_entry F.slot_zip_next hTy F.entry_zip_next
      (zdHeld_item S D1 D2 hz hT hTI st1 st2 hlt1 hlt2 fun x y h' tk a1 a2 a3 a4 a5 a6 a7 a8 => wpAny_pure (hQ x y h' tk a1 a2 a3 a4 a5 a6 a7 a8)) (F.args_zip_next_1 _))))
theorem zdHeld_nextEnd {Q : Option Value → Shared → Prop} (S : ZipSep2 z TI TO i1 i2 fp1 fp2) (D1 : Draws prog w A.in1 i1 fp1 n1 P1 St1) (D2 : Draws prog w A.in1 i2 fp2 n2 P2 St2)
    (hz : IsZipHeld s.heap z TI TO T f) (hT : s.heap.get? T = some oT) (hTI : IsTupOf2 s.heap TI (.ref i1) (.ref i2)) (st1 : St1 i s.heap) (st2 : St2 i s.heap) (hle1 : i ≤ n1) (hle2 : i ≤ n2) (hend : i = n1 ∨ i = n2)
    (hQ : ∀ h' tk, (∀ c o, c ≠ z → c ≠ i1 → c ≠ i2 → s.heap.get? c = some o → h'.get? c = some o) → Q none { s with heap := h', toks := tk }) : wpAny (model prog w) A (pyNext (.ref z)) Q E s := by
  have hTy : s.TypeIs (.ref z) "zip" := ⟨_, hz, rfl⟩
  unfold pyNext
  refine wpAny_bind (wpAny_attempt (wpAny_callSpecial?_slot (name := Str.ofString "__next__") hTy F.slot_zip_next
    (wpAny_call_entry F.slot_zip_next hTy F.entry_zip_next (zdHeld_end S D1 D2 hz hT hTI st1 st2 hle1 hle2 hend fun h' tk e hk he => ?_) (F.args_zip_next_1 _))))
  obtain ⟨o, ho, hc⟩ := he
  refine wpAny_bind (wpAny_isInstance (T := "StopIteration") (b := true) ⟨o, ho, hc⟩ isSubtype_stop ?_)
  exact wpAny_pure (hQ _ _ hk)
end
section
variable {prog : Program} {w : World}
theorem PairArg.zipD {z TI TO i1 i2 : Addr} {fp1 fp2 : List Addr} {n1 n2 : Nat} {P1 P2 : Nat → Value → Prop} {St1 St2 : Nat → Heap → Prop} (S : ZipSep2 z TI TO i1 i2 fp1 fp2) (D1 : ∀ A : Around, A.handled = none → Draws prog w A i1 fp1 n1 P1 St1)
    (D2 : ∀ A : Around, A.handled = none → Draws prog w A i2 fp2 n2 P2 St2) :
    PairArg prog w "zip" z (z :: TI :: TO :: (fp1 ++ fp2)) [z, TO, i1, i2] (min n1 n2) (fun i k v => P1 i k ∧ P2 i v)
      (fun h => IsZip h z TI TO .none ∧ IsTupOf2 h TI (.ref i1) (.ref i2) ∧ (∃ a b, IsTupOf2 h TO a b) ∧ (St1 0 h ∧ St2 0 h) ∧ (∀ b ∈ fp1 ++ fp2, ∃ o, h.get? b = some o) ∧ ∃ A : Around, A.handled = none) where
  type := fun s ok => ⟨_, ok.1, rfl⟩
  notDict := by decide
  keep := fun h h' ok hk => by
    obtain ⟨hz, hTI, ⟨a, b, hTO⟩, ⟨h1, h2⟩, hl, A, hA⟩ := ok
    exact ⟨hk _ _ hz, hk _ _ hTI, ⟨a, b, hk _ _ hTO⟩, ⟨(D1 A hA).frame _ _ _ h1 fun b _ o e => hk b o e, (D2 A hA).frame _ _ _ h2 fun b _ o e => hk b o e⟩, fun b hb => (hl b hb).imp fun o e => hk b o e, A, hA⟩
  there := fun h ok b hb => by
    obtain ⟨hz, hTI, ⟨a, c, hTO⟩, _, hl, _⟩ := ok
    simp only [List.mem_cons] at hb
    rcases hb with rfl | rfl | rfl | hb
    · exact ⟨_, hz⟩
    · exact ⟨_, hTI⟩
    · exact ⟨_, hTO⟩
    · exact hl b hb
  sub := fun b hb => by
    have hb : b = z ∨ b = TO ∨ b = i1 ∨ b = i2 := by simpa using hb
    rcases hb with rfl | rfl | rfl | rfl
    · simp
    · simp
    · exact List.mem_cons_of_mem _ (List.mem_cons_of_mem _ (List.mem_cons_of_mem _ (List.mem_append_left _ S.mem1)))
    · exact List.mem_cons_of_mem _ (List.mem_cons_of_mem _ (List.mem_cons_of_mem _ (List.mem_append_right _ S.mem2)))
  noKeys := fun A s Q E hA ok h => getAttrOr_miss_zip ok.1 rfl rfl rfl zip_no_keys (by decide +kernel) hA h
  iter := fun A s d Q E hA ok hd hdf h => by
    obtain ⟨hz, hTI, ⟨a, b, hTO⟩, ⟨h1, h2⟩, hl, _⟩ := ok
    have dz : d ≠ z := fun e => hdf (by simp [e])
    have dTI : d ≠ TI := fun e => hdf (by simp [e])
    have dTO : d ≠ TO := fun e => hdf (by simp [e])
    have df1 : d ∉ fp1 := fun e => hdf (by simp [e])
    have df2 : d ∉ fp2 := fun e => hdf (by simp [e])
    refine wpAny_pyIter_zip hz (h z [z, TO, i1, i2] (fun i h => IsTupOf2 h TI (.ref i1) (.ref i2) ∧ (i ≤ n1 ∧ i ≤ n2) ∧ St1 i h ∧ St2 i h ∧
      ((IsZip h z TI TO .none ∧ ∃ a b, IsTupOf2 h TO a b) ∨ ∃ T f oT, IsZipHeld h z TI TO T f ∧ h.get? T = some oT ∧ T ≠ z ∧ T ≠ i1 ∧ T ≠ i2 ∧ T ≠ d)) s.heap s.toks ?_
      ⟨hTI, ⟨Nat.zero_le _, Nat.zero_le _⟩, h1, h2, .inl ⟨hz, a, b, hTO⟩⟩ (fun _ _ e => e) fun b hb => .inl hb)
    exact {
      off := fun hm => by
        have hm : d = z ∨ d = TO ∨ d = i1 ∨ d = i2 := by simpa using hm
        rcases hm with e | e | e | e
        · exact dz e
        · exact dTO e
        · exact df1 (e ▸ S.mem1)
        · exact df2 (e ▸ S.mem2)
      frame := fun i h₁ h₂ st hk => by
        obtain ⟨hTI, hle, h1, h2, hz⟩ := st
        refine ⟨hk _ _ (Ne.symm dTI) hTI, hle, (D1 A hA).frame _ _ _ h1 fun b hb o e => hk b o (fun q => df1 (q ▸ hb)) e, (D2 A hA).frame _ _ _ h2 fun b hb o e => hk b o (fun q => df2 (q ▸ hb)) e, ?_⟩
        rcases hz with ⟨hz, a, b, hTO⟩ | ⟨T, f, oT, hz, hT, r1, r2, r3, r4⟩
        · exact .inl ⟨hk _ _ (Ne.symm dz) hz, a, b, hk _ _ (Ne.symm dTO) hTO⟩
        · exact .inr ⟨T, f, oT, hk _ _ (Ne.symm dz) hz, hk _ _ r4 hT, r1, r2, r3, r4⟩
      item := fun i s₁ Q₁ E₁ hi st hds hQ => by
        obtain ⟨hTI, hle, h1, h2, hz⟩ := st
        have hi1 : i < n1 := by omega
        have hi2 : i < n2 := by omega
        have lt : ∀ {c o}, s₁.heap.get? c = some o → s₁.heap.objs.size ≠ c := fun e => Nat.ne_of_gt (Heap.lt_size e)
        have m1 : s₁.heap.objs.size ≠ i1 := by obtain ⟨_, e⟩ := (D1 A hA).live _ _ h1; exact lt e
        have m2 : s₁.heap.objs.size ≠ i2 := by obtain ⟨_, e⟩ := (D2 A hA).live _ _ h2; exact lt e
        rcases hz with ⟨hz, a, b, hTO⟩ | ⟨T, f, oT, hz, hT, r1, r2, r3, r4⟩
        · refine wpAny_pyNext_zipD2_item S (D1 A.in1 hA) (D2 A.in1 hA) hz hTI hTO h1 h2 hi1 hi2 fun x y h' tk p1 p2 a1 a2 a3 a4 a5 a6 hk => ?_
          exact hQ s₁.heap.objs.size _ _ h' tk ⟨p1, p2⟩ (.inl ⟨_, a5, rfl, _, rfl⟩)
            ⟨hk _ _ S.TIz S.TITO S.TIi1 S.TIi2 hTI, by omega, a3, a4, .inr ⟨s₁.heap.objs.size, false, _, a1, a5, lt hz, m1, m2, Nat.ne_of_gt hds⟩⟩
            fun c o hc e => hk c o (fun x => hc (by simp [x])) (fun x => hc (by simp [x])) (fun x => hc (by simp [x])) (fun x => hc (by simp [x])) e
        · refine zdHeld_nextItem S (D1 A.in1 hA) (D2 A.in1 hA) hz hT hTI h1 h2 hi1 hi2 fun x y h' tk p1 p2 a1 a3 a4 a5 a6 hk => ?_
          exact hQ s₁.heap.objs.size _ _ h' tk ⟨p1, p2⟩ (.inl ⟨_, a5, rfl, _, rfl⟩)
            ⟨hk _ _ S.TIz S.TIi1 S.TIi2 hTI, by omega, a3, a4, .inr ⟨T, true, oT, a1, hk _ _ r1 r2 r3 hT, r1, r2, r3, r4⟩⟩
            fun c o hc e => hk c o (fun x => hc (by simp [x])) (fun x => hc (by simp [x])) (fun x => hc (by simp [x])) e
      done := fun s₁ Q₁ E₁ st hQ => by
        obtain ⟨hTI, hle, h1, h2, hz⟩ := st
        rcases hz with ⟨hz, a, b, hTO⟩ | ⟨T, f, oT, hz, hT, r1, r2, r3, r4⟩
        · exact wpAny_pyNext_zipD2_end S (D1 A.in1 hA) (D2 A.in1 hA) hz hTI hTO h1 h2 hle.1 hle.2 (by omega) fun h' tk hk => hQ h' tk fun c o hc e => hk c o (fun x => hc (by simp [x])) (fun x => hc (by simp [x])) (fun x => hc (by simp [x])) (fun x => hc (by simp [x])) e
        · exact zdHeld_nextEnd S (D1 A.in1 hA) (D2 A.in1 hA) hz hT hTI h1 h2 hle.1 hle.2 (by omega) fun h' tk hk => hQ h' tk fun c o hc e => hk c o (fun x => hc (by simp [x])) (fun x => hc (by simp [x])) (fun x => hc (by simp [x])) e }
/-- dict(pairs), the pairs told by a relation -/
theorem dict_rel {K : Type} [DecidableEq K] {A : Around} {E : Value → Shared → Prop} {s : Shared} {ty : String} {a : Addr} {fp wr : List Addr} {n : Nat} {Rel : Nat → Value → Value → Prop} {OK : Heap → Prop} {knd : KeyKind prog w K} {Q : Value → Shared → Prop} (Rl : Nat → K → Value → Prop)
    (P : PairArg prog w ty a fp wr n Rel OK) (hh : A.handled = none) (ok : OK s.heap) (hc : ∀ i key v, Rel i key v → ∃ k, knd.is k key = true ∧ Rl i k v) (hsz : n ≤ sizeLine)
    (h : ∀ vs h' tk, vs.length = n → (∀ (j : Nat) (q : K × Value), vs[j]? = some q → Rl j q.1 q.2) → h'.DictOf knd s.heap.objs.size (merged [] vs) → (∀ b o, b ∉ wr → s.heap.get? b = some o → h'.get? b = some o) → Q (.ref s.heap.objs.size) { s with heap := h', toks := tk }) :
    wpAny (model prog w) A (call (.type "dict") [.ref a]) Q E s := by
  refine call_dict_arg P ok fun s₁ hs₁ hdf ok₁ => ?_
  subst hs₁
  refine updateFrom_arg (A := A.in1) (Tab := fun i h => ∃ vs : List (K × Value), vs.length = i ∧ (∀ (j : Nat) (q : K × Value), vs[j]? = some q → Rl j q.1 q.2) ∧ h.DictOf knd s.heap.objs.size (merged [] vs)) P .none hh ok₁ hdf
    ⟨[], rfl, fun j q e => by simp at e, Heap.DictOf.new s.heap⟩ (fun _ _ ⟨_, _, _, tb⟩ => tb.lt_size) (fun i h h' wr' hd _ ⟨vs, e1, e2, tb⟩ hk => ⟨vs, e1, e2, tb.at' fun o e => hk _ o hd e⟩) ?_ ?_
  · rintro i key v s' Q' E' hi hrel ⟨vs, e1, e2, tb⟩ _ hQ
    obtain ⟨k, his, hrl⟩ := hc i key v hrel
    refine wpAny_dictSet_pairs (hsz := by have := merged_length_le [] vs; simp at this; omega) his tb fun h' hm' hs => ?_
    refine hQ h' _ ⟨vs ++ [(k, v)], by simp [e1], fun j q e => ?_, ?_⟩ hs
    · by_cases c : j < vs.length
      · rw [List.getElem?_append_left c] at e; exact e2 j q e
      · rw [List.getElem?_append_right (by omega)] at e
        have hj : j - vs.length = 0 := by
          cases z : j - vs.length with
          | zero => rfl
          | succ m => rw [z] at e; simp at e
        rw [hj] at e
        cases e
        have : j = i := by omega
        subst this
        exact hrl
    · have := merged_take_succ [] (vs ++ [(k, v)]) vs.length (k, v) (by simp)
      rw [List.take_of_length_le (by simp), List.take_left' rfl] at this
      rw [this]; exact hm'
  · rintro h' tk ⟨vs, e1, e2, tb⟩ hk
    exact ⟨rfl, h vs h' tk e1 e2 tb fun b o hw e => hk b o (Nat.ne_of_lt (Heap.lt_size e)) hw (Heap.get?_push_of_some _ e)⟩
end
end PySem
namespace Vd
open L2 PyProof.Rows PySem PySem.Spec
def dzV : List Str → List Nat → List (Key × V)
  | k :: ks, c :: cs => (.inr k, .str ⟨#[c]⟩) :: dzV ks cs
  | _, _ => []
def dzD : List Str → List Nat → List (Key × Pd)
  | k :: ks, c :: cs => (.inr k, .str ⟨#[c]⟩) :: dzD ks cs
  | _, _ => []
theorem dz_kv {F : Hp} : ∀ (ks : List Str) (cs : List Nat), KvP F (dzD ks cs) (dzV ks cs)
  | [], _ => .nil
  | _ :: _, [] => .nil
  | k :: ks, c :: cs => .cons rfl (dz_kv ks cs)
theorem dz_keys : ∀ (ks : List Str) (cs : List Nat), ks.length ≤ cs.length → (dzV ks cs).map (·.1) = ks.map Sum.inr
  | [], _, _ => by cases ‹List Nat› <;> rfl
  | _ :: _, [], h => by simp at h
  | k :: ks, c :: cs, h => by
    show _ :: (dzV ks cs).map (·.1) = _
    rw [dz_keys ks cs (by simpa using h)]; rfl
theorem dz_len : ∀ (ks : List Str) (cs : List Nat), (dzV ks cs).length ≤ ks.length
  | [], _ => by cases ‹List Nat› <;> simp [dzV]
  | _ :: _, [] => by simp [dzV]
  | k :: ks, c :: cs => by
    have := dz_len ks cs
    simp only [dzV, List.length_cons]; omega
theorem dz_paired : ∀ (ks : List Str) (cs : List Nat) (vs : List (Key × Value)), ks.length ≤ cs.length → vs.length = ks.length →
    (∀ (j : Nat) (q : Key × Value), vs[j]? = some q → (∃ k, ks[j]? = some k ∧ q.1 = .inr k) ∧ ∃ c u, cs[j]? = some c ∧ q.2 = .str ⟨#[c]⟩ u) → KV (dzV ks cs) vs
  | [], cs, vs, _, hl, _ => by
    have : vs = [] := by simpa using hl
    subst this
    cases cs <;> exact .nil
  | _ :: _, [], _, h, _, _ => by simp at h
  | k :: ks, c :: cs, [], _, hl, _ => by simp at hl
  | k :: ks, c :: cs, q :: vs, h, hl, hq => by
    obtain ⟨⟨k', e1, e2⟩, c', u, e3, e4⟩ := hq 0 q rfl
    cases e1
    cases e3
    refine .cons ⟨e2.symm, ?_⟩ (dz_paired ks cs vs (by simpa using h) (by simpa using hl) fun j q' e => hq (j + 1) q' e)
    rw [e4]; exact ⟨u, rfl⟩
section
variable {X : Cx} {U : WX}
theorem strs_vals : ∀ {ks : List Str} {us : List Value}, Vals (ks.map V.str) us → us.length = ks.length ∧ ∀ (j : Nat) (u : Value), us[j]? = some u → ∃ k t, ks[j]? = some k ∧ u = .str k t
  | [], _, .nil => ⟨rfl, fun j u e => by simp at e⟩
  | k :: ks, _, .cons r t => by
    obtain ⟨h1, h2⟩ := strs_vals t
    obtain ⟨t0, rfl⟩ := r
    refine ⟨by simp [h1], fun j u e => ?_⟩
    cases j with
    | zero => cases e; exact ⟨k, t0, rfl, rfl⟩
    | succ j => exact h2 j u (by simpa using e)
theorem zsep (m l : Nat) (h : l < m) : ZipSep2 (m + 4) (m + 2) (m + 3) m (m + 1) [m, l] [m + 1] where
  TIz := (show (m + 2 : Nat) ≠ m + 4 by omega)
  TOz := (show (m + 3 : Nat) ≠ m + 4 by omega)
  TITO := (show (m + 2 : Nat) ≠ m + 3 by omega)
  TIi1 := (show (m + 2 : Nat) ≠ m by omega)
  mem1 := List.mem_cons_self
  zf1 := fun hh => (List.mem_cons.mp hh).elim (fun e => absurd e (show (m + 4 : Nat) ≠ m by omega)) fun hh => absurd (List.mem_singleton.mp hh) (show (m + 4 : Nat) ≠ l by omega)
  Tf1 := fun hh => (List.mem_cons.mp hh).elim (fun e => absurd e (show (m + 3 : Nat) ≠ m by omega)) fun hh => absurd (List.mem_singleton.mp hh) (show (m + 3 : Nat) ≠ l by omega)
  TIi2 := (show (m + 2 : Nat) ≠ m + 1 by omega)
  mem2 := List.mem_cons_self
  zf2 := fun hh => absurd (List.mem_singleton.mp hh) (show (m + 4 : Nat) ≠ m + 1 by omega)
  Tf2 := fun hh => absurd (List.mem_singleton.mp hh) (show (m + 3 : Nat) ≠ m + 1 by omega)
  sep1_2 := fun hh => absurd (List.mem_singleton.mp hh) (show (m : Nat) ≠ m + 1 by omega)
  sep2_1 := fun hh => (List.mem_cons.mp hh).elim (fun e => absurd e (show (m + 1 : Nat) ≠ m by omega)) fun hh => absurd (List.mem_singleton.mp hh) (show (m + 1 : Nat) ≠ l by omega)
def tDZ (K : PySem.W.Frag) (ta : TA) : TE := fun σ H Q => ta σ H fun xs H1 => ∃ (l : Addr) (ks : List Str) (z : Str), xs = [.ref l, .str z] ∧ SqL K H1 l (ks.map V.str) ∧ ks.Nodup ∧ ks.length ≤ z.cps.size ∧ ∀ p, H1 p = none → Q (.ref p) (upd H1 p (.dK (dzV ks z.cps.toList)))
theorem pe_dz {e : Expr} {es : List Expr} {ta : TA} {p p2 pos2 pos : Pos} (hc : X.calm = true) (hg : Gl X "dict") (hm : X.mg "dict" = none) (hg2 : Gl X "zip") (hm2 : X.mg "zip" = none) (ha : PA X (e :: es) ta)
    (na : starEach (e :: es) X.env = (false, eval e X.env) :: starEach es X.env := by rfl) (hpl : (backTo pos2 (starEach es X.env)).any (·.1) = false := by rfl) :
    PE X (.Call (.Name "dict" p) [.Call (.Name "zip" p2) (e :: es) [] pos2] [] pos) (tDZ X.K ta) := by
  constructor
  intro pins s σ H Q I h
  have inner : ∀ (s1 : Shared) (l : Addr) (z : Str) (t : Tok) (H1 : Hp), Inv X pins σ H1 s1 → (∃ (ks : List Str), SqL X.K H1 l (ks.map V.str) ∧ ks.Nodup ∧ ks.length ≤ z.cps.size ∧ ∀ p, H1 p = none → Q (.ref p) (upd H1 p (.dK (dzV ks z.cps.toList)))) →
      wpAny (model X.prog X.w) X.A (call (.type "zip") [.ref l, .str z t]) (fun u s2 => wpAny (model X.prog X.w) X.A (call (.type "dict") [u]) (EP X pins σ Q) X.xe s2) X.xe s1 := by
    intro s1 l z t H1 I1 q1
    obtain ⟨ks, hq, hnd, hle, q2⟩ := q1
    obtain ⟨its, r, pl, hz⟩ := I1.list hq
    obtain ⟨hl, hks⟩ := strs_vals r
    rw [List.length_map] at hz
    have hl2 : l < s1.heap.objs.size := by obtain ⟨o, n, ho, _⟩ := pl; exact Heap.lt_size ho
    refine zip_begins2 (begins_list l its.toArray) (begins_text z t) pl.isList trivial fun h' z1 z2 z3 z4 z5 hsz hk => ?_
    have S := zsep s1.heap.objs.size l hl2
    have D1 : ∀ A : Around, A.handled = none → Draws X.prog X.w A s1.heap.objs.size [s1.heap.objs.size, l] its.toArray.size (fun i v => its.toArray[i]? = some v) (fun i h => h.IsListIter s1.heap.objs.size l i ∧ h.IsList l its.toArray) := fun A hA => Draws.list hA s1.heap.objs.size l (Nat.ne_of_lt hl2) its.toArray
    have D2 : ∀ A : Around, A.handled = none → Draws X.prog X.w A (s1.heap.objs.size + 1) [s1.heap.objs.size + 1] z.cps.size (fun i v => ∃ c u, z.cps[i]? = some c ∧ v = .str ⟨#[c]⟩ u) (fun i h => h.IsStrIter (s1.heap.objs.size + 1) (strIterType z) z t i) := fun A hA => Draws.text hA (s1.heap.objs.size + 1) z t
    have P := PairArg.zipD S D1 D2
    have hmin : min its.toArray.size z.cps.size = ks.length := by rw [List.size_toArray, hl]; omega
    have hin : ∀ b o, s1.heap.get? b = some o → h'.get? b = some o := hk
    have IL : h'.IsList l its.toArray := pl.isList.at fun o e => hin l o e
    have hh : X.A.handled = none := I1.ok.hd hc
    refine dict_rel (s := { s1 with heap := h' }) (knd := mixKind X.prog X.w) (fun i k v => (∃ k', ks[i]? = some k' ∧ k = .inr k') ∧ ∃ c u, z.cps.toList[i]? = some c ∧ v = .str ⟨#[c]⟩ u) P hh
      ⟨z1, z2, ⟨_, _, z3⟩, ⟨⟨⟨_, z4, rfl, rfl⟩, IL⟩, ⟨_, z5, rfl, rfl⟩⟩, fun b hb => ?_, X.A, hh⟩ (fun i key v hr => ?_) (by rw [hmin]; exact hz) fun vs h2 tk e1 e2 hd hk2 => ?_
    · have hb : b = s1.heap.objs.size ∨ b = l ∨ b = s1.heap.objs.size + 1 := by simpa using hb
      rcases hb with rfl | rfl | rfl
      · exact ⟨_, z4⟩
      · obtain ⟨o, n, ho, _⟩ := pl; exact ⟨o, hin _ _ ho⟩
      · exact ⟨_, z5⟩
    · obtain ⟨p1, c, u, p2, p3⟩ := hr
      obtain ⟨k, t', g1, g2⟩ := hks i key (by simpa using p1)
      subst g2
      exact ⟨.inr k, mixKind_str _ _ _ _, ⟨k, g1, rfl⟩, c, u, by simpa using p2, p3⟩
    · have hkv := dz_paired ks z.cps.toList vs (by simpa using hle) (by rw [e1, hmin]) e2
      have hkeys : vs.map (·.1) = ks.map Sum.inr := by
        have := dz_keys ks z.cps.toList (by simpa using hle)
        rw [← this]
        clear this hd e1 e2
        generalize dzV ks z.cps.toList = kvs at hkv
        induction hkv with
        | nil => rfl
        | cons h _ ih => rw [List.map_cons, List.map_cons, ih, h.1]
      have hvn : (vs.map (·.1)).Nodup := by
        rw [hkeys]
        exact List.pairwise_map.mpr (hnd.imp fun h e => h (Sum.inr.inj e))
      rw [merged_nil_of_nodup vs hvn] at hd
      have kp : ∀ b o, s1.heap.get? b = some o → h2.get? b = some o := fun b o e => hk2 b o (fun hb => by
        have hb : b = s1.heap.objs.size + 4 ∨ b = s1.heap.objs.size + 3 ∨ b = s1.heap.objs.size ∨ b = s1.heap.objs.size + 1 := by simpa using hb
        have hlt : (b : Nat) < s1.heap.objs.size := Heap.lt_size e
        have hge : s1.heap.objs.size ≤ (b : Nat) := by
          rcases hb with hb | hb | hb | hb
          · rw [hb]; exact Nat.le_add_right _ 4
          · rw [hb]; exact Nat.le_add_right _ 3
          · rw [hb]; exact Nat.le_refl _
          · rw [hb]; exact Nat.le_add_right _ 1
        exact absurd hlt (Nat.not_lt.mpr hge)) (hin b o e)
      have hge : s1.heap.objs.size ≤ h'.objs.size := by rw [hsz]; omega
      have hb : (h'.objs.size == sysModules) = false := beq_eq_false_iff_ne.mpr (Nat.ne_of_gt (Nat.lt_of_lt_of_le I1.big hge))
      have hlen : (dzV ks z.cps.toList).length ≤ sizeLine := Nat.le_trans (dz_len _ _) hz
      exact ⟨.ref h'.objs.size, upd H1 h'.objs.size (.dK (dzV ks z.cps.toList)), I1.laid (t' := tk) kp hge (show ObjOk X.prog X.w _ _ _ (.dK (dzV ks z.cps.toList)) from ⟨hlen, hb, vs, hkv, hd⟩), rfl, q2 _ (I1.hok.fresh hge)⟩
  refine Call_ (ld_blt I hg hm boot_dict (PyProof.Rows.callWith_type1 (PyProof.Rows.args_cons ?_ rfl) rfl rfl))
  refine Call_ (ld_blt I hg2 hm2 PyProof.Rows.boot_zip (PyProof.Rows.callWith_type1 (thn (ha.run pos2 pins s σ H _ I h) fun us s1 ⟨vs, H1, I1, r1, q1⟩ => ?_) na hpl))
  obtain ⟨l, ks, z, rfl, q1⟩ := q1
  cases r1 with
  | cons r rr =>
    cases r
    cases rr with
    | cons r2 rr2 =>
      cases rr2
      obtain ⟨t, rfl⟩ := r2
      exact wpAny_mono (inner s1 l z t H1 I1 ⟨ks, q1⟩) (fun u s2 h2 => PyProof.Rows.args_nil h2) fun _ _ h => h
def strsOf : List Pd → Option (List Str)
  | [] => some []
  | .str x :: r => (strsOf r).map (x :: ·)
  | _ :: _ => none
theorem strsOf_rep {F : Hp} : ∀ {ds : List Pd} {xs : List V} {ks : List Str}, DsL F ds xs → strsOf ds = some ks → xs = ks.map V.str
  | [], _, _, h, e => by cases h; cases e; rfl
  | d :: ds, _, ks, ⟨x, r, e1, h, q⟩, e => by
    subst e1
    unfold strsOf at e
    split at e
    · rename_i heq; cases heq
    · rename_i y r' heq
      cases heq
      cases z : strsOf ds with
      | none => rw [z] at e; cases e
      | some ks' =>
        rw [z] at e
        cases e
        cases h
        rw [strsOf_rep q z]; rfl
    · cases e
noncomputable def nDictZ (t : Rho → R (List W)) : Rho → R OT := fun ρ => (t ρ).bind fun ws => match ws with
  | [.dat (.list ds), .dat (.str z)] => match strsOf ds with
    | some ks => @ite _ (ks.Nodup ∧ ks.length ≤ z.cps.size) (Classical.propDecidable _) (.ok (.dK (dzD ks z.cps.toList))) .no
    | none => .no
  | _ => .no
theorem vn_dictZ {e : Expr} {es : List Expr} {t : Rho → R (List W)} {p p2 pos2 pos : Pos} (hc : X.calm = true) (hm : X.mg "dict" = none) (hm2 : X.mg "zip" = none) (ha : VA X U (e :: es) t) (hg : Gl X "dict" := by rfl) (hg2 : Gl X "zip" := by rfl)
    (na : starEach (e :: es) X.env = (false, eval e X.env) :: starEach es X.env := by rfl) (hpl : (backTo pos2 (starEach es X.env)).any (·.1) = false := by rfl) :
    VN X U (.Call (.Name "dict" p) [.Call (.Name "zip" p2) (e :: es) [] pos2] [] pos) (nDictZ t) := by
  refine PE.imp (pe_dz hc hg hm hg2 hm2 ha na hpl) fun σ H Q ⟨B, ρ, F, k, q⟩ => ?_
  unfold nDictZ at q
  rw [run_bind] at q
  refine ⟨B, ρ, F, k, run_mono q (fun ws hw q vs F1 H1 e1 r1 => ?_) fun _ q => q⟩
  clear hw
  split at q
  · rename_i ds z
    obtain ⟨x, r, rfl, hx, y, r2, rfl, hy, hr2⟩ := r1
    cases hr2
    cases hy
    obtain ⟨a, xs, rfl, h1, h2⟩ := hx
    split at q
    · rename_i ks hks
      by_cases c : ks.Nodup ∧ ks.length ≤ z.cps.size
      · rw [if_pos c] at q
        have := strsOf_rep h2 hks
        subst this
        refine ⟨a, ks, z, rfl, .of (e1.sub _ _ h1), c.1, c.2, fun p hp => ?_⟩
        refine q p [p] F1 _ (e1.trans (.newO e1.sub hp)) ⟨rfl, _, upd_same, dz_kv ks z.cps.toList⟩ fun b hb => ?_
        rw [List.mem_singleton.mp hb]
        exact ⟨e1.hh.nn hp, e1.sub.nn hp, ⟨_, upd_same, fun _ h => nomatch h⟩⟩
      · rw [if_neg c] at q; exact q.elim
    · exact q.elim
  · exact q.elim
end
end Vd

/-! Num: rows of numbers, slices, patches as data. -/
namespace Cp
open L2 PyProof.Rows PySem PySem.Spec Vd
def pIs' (l : List Int) : Pd := .list (l.map .int)
def wIs (l : List Int) : W := .dat (pIs' l)
theorem asInts_map : ∀ l : List Int, asInts (l.map .int) = some l
  | [] => rfl
  | a :: l => by simp only [List.map_cons, asInts]; rw [asInts_map l]; rfl
theorem lay_Is (l : List Int) : (pIs' l).canLay0 = true := by simp only [pIs', PyData.canLay0]; exact layAll_map _ l fun a _ => by simp [PyData.canLay0]
theorem dep_Is (l : List Int) : (pIs' l).depth ≤ 1 := by simp only [pIs', PyData.depth]; have := depthAll_map PyData.int 0 (fun i => by simp [PyData.depth]) l; omega
theorem sh_Is (l : List Int) : SeqAt.shaped (pIs' l) = true := sh_mk (lay_Is l) (by have := dep_Is l; omega)
theorem eqv_Is (l m : List Int) : PyData.eqv (pIs' l) (pIs' m) = decide (l = m) := by simp only [pIs', PyData.eqv]; exact eqvAll_map PyData.int eqv_I l m
theorem pEq_Is (n : Bool) (l m : List Int) : pEq n (wIs l) (wIs m) = .ok (bv (if n = true then decide (¬ l = m) else decide (l = m))) := pEq_mk (sh_Is l) (sh_Is m) (eqv_Is l m)
theorem pIn_Is (n : Bool) (c : Int) (l : List Int) : pInW n (wI c) (wIs l) = .ok (bv (if n = true then decide (¬ c ∈ l) else decide (c ∈ l))) := by
  have h : pIn (wI c) (wIs l) = .ok (decide (c ∈ l)) := by
    show (if SeqAt.shaped (.int c) = true ∧ SeqAt.shaped (pIs' l) = true then _ else _) = _
    rw [if_pos ⟨sh_I c, sh_Is l⟩]
    congr 1
    rw [Bool.eq_iff_iff]
    simp only [List.any_map, List.any_eq_true, decide_eq_true_eq, Function.comp_apply, eqv_I]
    constructor
    · rintro ⟨x, h1, rfl⟩; exact h1
    · intro h1; exact ⟨c, h1, rfl⟩
  unfold pInW; rw [h]
  show R.ok (bv _) = _
  cases n <;> by_cases q : c ∈ l <;> simp [q]
theorem pAdd_Is (l m : List Int) (h : l.length + m.length ≤ 1000) : pAdd (wIs l) (wIs m) = .ok (wIs (l ++ m)) := by
  show (if (l.map PyData.int).length + (m.map PyData.int).length ≤ sizeLine then R.ok (W.dat (.list (l.map PyData.int ++ m.map PyData.int))) else .no) = _
  rw [if_pos (by rw [List.length_map, List.length_map]; unfold sizeLine; omega), ← List.map_append]; rfl
theorem pMul_Is (l : List Int) (k : Nat) (h : l.length * k ≤ 1000) (hk : k ≤ 1000) : pMul (wIs l) (wI k) = .ok (wIs (List.replicate k l).flatten) := by
  have e : (List.replicate k (l.map PyData.int)).flatten = ((List.replicate k l).flatten).map PyData.int := by
    rw [List.map_flatten, List.map_replicate]
  simp only [pMul, wIs, pIs', wI]
  rw [if_pos ⟨by omega, by omega, by rw [List.length_map, Int.toNat_natCast]; unfold sizeLine; omega⟩, Int.toNat_natCast, e]
theorem pMul_I1 (i : Int) (p : Prop) [Decidable p] : pMul (wIs [i]) (wI (if p then 1 else 0)) = .ok (wIs (if p then [i] else [])) := by
  by_cases c : p
  · rw [if_pos c, if_pos c]; exact pMul_Is [i] 1 (by simp) (by omega)
  · rw [if_neg c, if_neg c]; exact pMul_Is [i] 0 (by simp) (by omega)
theorem pInt_bv (p : Prop) [Decidable p] : pInt [bv (decide p)] = .ok (wI (if p then 1 else 0)) := by
  show R.ok (wI (if decide p = true then 1 else 0)) = _
  by_cases c : p <;> simp [c]
theorem pLen_Is (l : List Int) : pLen [wIs l] = .ok (wI l.length) := by simp [pLen, wIs, pIs']
theorem items_Is (l : List Int) : items (wIs l) = .ok (l.map wI) := by simp only [items, wIs, pIs', List.map_map]; rfl
theorem pGet_Is (l : List Int) (i : Int) (h0 : 0 ≤ i) (h : i < l.length) : pGet (wIs l) (wI i) = .ok (wI (l.getD i.toNat 0)) := by
  show optW .dat (atI (l.map PyData.int) i) = _
  rw [atI_pos h0 (by simpa using h), List.getElem?_map, List.getElem?_eq_getElem (by omega)]
  rw [List.getD_eq_getElem?_getD, List.getElem?_eq_getElem (by omega)]; rfl
theorem pSum_Is (l : List Int) : pSum [wIs l] = .ok (wI l.sum) := by
  show (match asInts (l.map PyData.int) with | some ns => R.ok (wI ns.sum) | none => .no) = _
  rw [asInts_map]
theorem pMax_Is (l : List Int) (h : l ≠ []) : pMax [wIs l] = .ok (wI (maxI l)) := by
  show (match asInts (l.map PyData.int) with | some ns => if ns = [] then R.no else .ok (wI (maxI ns)) | none => .no) = _
  rw [asInts_map]; simp only [if_neg h]
theorem pMin_Is (l : List Int) (h : l ≠ []) : pMin [wIs l] = .ok (wI (minI l)) := by
  show (match asInts (l.map PyData.int) with | some ns => if ns = [] then R.no else .ok (wI (minI ns)) | none => .no) = _
  rw [asInts_map]; simp only [if_neg h]
def rgI (n : Nat) : List Int := (List.range n).map fun k : Nat => (k : Int)
theorem pLstRg_I (n : Nat) (h : n ≤ 1000) : pLstRg (wI n) = .ok (wIs (rgI n)) := by
  show (if 0 ≤ (n : Int) ∧ (n : Int) ≤ 16777216 then R.ok (W.dat (.list (rgD (n : Int).toNat))) else .no) = _
  rw [if_pos (by omega), Int.toNat_natCast]
  unfold rgD wIs pIs' rgI; rw [List.map_map]; rfl
theorem rng1_Is (n : Nat) (h : n ≤ 1000) : rng1 [wI n] = .ok ((rgI n).map wI) := by
  rw [rng1_I _ (by omega) (by omega), Int.toNat_natCast]
  unfold rgI; rw [List.map_map]; rfl
theorem wIs_nil : W.dat (PyData.list []) = wIs [] := rfl
theorem wIs_one (i : Int) : W.dat (PyData.list [.int i]) = wIs [i] := rfl
/-! slices -/
theorem sIx_some (n : Nat) (d : Nat) (k : Nat) : HT.sIx n d (some (k : Int)) = min k n := by
  unfold HT.sIx; simp only []; rw [if_neg (by omega), Int.toNat_natCast]
theorem cutD_to {α : Type} (xs : List α) (k : Nat) : Vd.cutD xs none (some (k : Int)) = xs.take k := by
  unfold Vd.cutD
  rw [sIx_some, show HT.sIx xs.length 0 none = 0 from rfl, List.drop_zero, Nat.sub_zero]
  rcases Nat.le_total k xs.length with h | h
  · rw [Nat.min_eq_left h]
  · rw [Nat.min_eq_right h, List.take_of_length_le (Nat.le_refl _), List.take_of_length_le h]
theorem cutD_from {α : Type} (xs : List α) (k : Nat) : Vd.cutD xs (some (k : Int)) none = xs.drop k := by
  unfold Vd.cutD
  rw [sIx_some, show HT.sIx xs.length xs.length none = xs.length from rfl]
  rcases Nat.le_total k xs.length with h | h
  · rw [Nat.min_eq_left h, List.take_of_length_le (by simp)]
  · rw [Nat.min_eq_right h, List.drop_eq_nil_of_le (Nat.le_refl _), List.drop_eq_nil_of_le h]; simp
theorem cutD_mid {α : Type} (xs : List α) (i j : Nat) (h : i ≤ j) : Vd.cutD xs (some (i : Int)) (some (j : Int)) = (xs.drop i).take (j - i) := by
  unfold Vd.cutD
  rw [sIx_some, sIx_some]
  rcases Nat.le_total i xs.length with h1 | h1
  · rw [Nat.min_eq_left h1]
    rcases Nat.le_total j xs.length with h2 | h2
    · rw [Nat.min_eq_left h2]
    · rw [Nat.min_eq_right h2, List.take_of_length_le (by simp), List.take_of_length_le (by simp; omega)]
  · rw [Nat.min_eq_right h1, List.drop_eq_nil_of_le (Nat.le_refl _), List.drop_eq_nil_of_le h1]; simp
theorem pSl_Cs (l : List C2) (lo hi : Option Int) : pSl (wCs l) lo hi = .ok (wCs (Vd.cutD l lo hi)) := by
  show R.ok (W.dat (.list (Vd.cutD (l.map pC) lo hi))) = R.ok (W.dat (.list ((Vd.cutD l lo hi).map pC)))
  unfold Vd.cutD; rw [List.map_take, List.map_drop, List.length_map]
theorem pSl_B (l : Bd) (lo hi : Option Int) : pSl (wB l) lo hi = .ok (wB (Vd.cutD l lo hi)) := by
  show R.ok (W.dat (.tuple (Vd.cutD (l.map pR) lo hi))) = R.ok (W.dat (.tuple ((Vd.cutD l lo hi).map pR)))
  unfold Vd.cutD; rw [List.map_take, List.map_drop, List.length_map]
theorem pSl_R (l : List Nat) (lo hi : Option Int) (h : l.length ≤ 1000) : pSl (wR l) lo hi = .ok (wR (Vd.cutD l lo hi)) := by
  show (if (S l).length ≤ sizeLine then R.ok (W.dat (.str (S (Vd.cutD (S l).cps.toList lo hi)))) else .no) = _
  rw [if_pos (by rw [Slen]; unfold sizeLine; omega)]; rfl
theorem pRev_Cs (l : List C2) : pRev (wCs l) = .ok (wCs l.reverse) := by
  show R.ok (W.dat (.list (l.map pC).reverse)) = R.ok (W.dat (.list (l.reverse.map pC)))
  rw [List.map_reverse]
theorem pAdd_Cs (l m : List C2) (h : l.length + m.length ≤ 1000) : pAdd (wCs l) (wCs m) = .ok (wCs (l ++ m)) := by
  show (if (l.map pC).length + (m.map pC).length ≤ sizeLine then R.ok (W.dat (.list (l.map pC ++ m.map pC))) else .no) = _
  rw [if_pos (by rw [List.length_map, List.length_map]; unfold sizeLine; omega), ← List.map_append]; rfl
theorem pAdd_B (l m : Bd) (h : l.length + m.length ≤ 1000) : pAdd (wB l) (wB m) = .ok (wB (l ++ m)) := by
  show (if (l.map pR).length + (m.map pR).length ≤ sizeLine then R.ok (W.dat (.tuple (l.map pR ++ m.map pR))) else .no) = _
  rw [if_pos (by rw [List.length_map, List.length_map]; unfold sizeLine; omega), ← List.map_append]; rfl
theorem pMulX_S (c : Nat) (n : Nat) (h1 : 1 ≤ n) (h : n ≤ 1000) : pMulX (wS [c]) (wI n) = .ok (wR (List.replicate n c)) := by
  show (if 1 ≤ (n : Int) ∧ (n : Int) ≤ 1000 then R.ok (W.dat (.str (S (List.replicate (n : Int).toNat c)))) else .no) = _
  rw [if_pos (by omega), Int.toNat_natCast]; rfl
theorem pMulX_B (l : Bd) (n : Nat) (h1 : 1 ≤ n) (h : n ≤ 1000) (hl : l ≠ []) (hl2 : l.length ≤ 1000) : pMulX (wB l) (wI n) = .ok (wB (List.replicate n l).flatten) := by
  show (if (n : Int) = 1 then R.ok (W.dat (.tuple (l.map pR))) else pMul (wB l) (wI n)) = _
  by_cases c : n = 1
  · subst c; rw [if_pos (by omega)]; simp [wB, pB]
  · rw [if_neg (by omega)]
    have e : (List.replicate n (l.map pR)).flatten = ((List.replicate n l).flatten).map pR := by
      rw [List.map_flatten, List.map_replicate]
    simp only [pMul, wB, pB, wI]
    rw [if_pos ⟨by simpa using hl, by omega, by omega, by simpa using hl2⟩, Int.toNat_natCast, e]
theorem srtC_self {l : List C2} (h : l.Pairwise fun a b => leC a b = true) : (l.mergeSort fun a b => leD (pC a) (pC b)) = l := by
  rw [mergeC]
  exact sorted_eq (mergeC_sorted l) h (List.mergeSort_perm l _)
theorem ddup_const {α : Type} [DecidableEq α] (z : α) : ∀ {l : List α}, l ≠ [] → (∀ x ∈ l, x = z) → (ddup l).length = 1
  | [], h, _ => (h rfl).elim
  | [a], _, h => by simp [ddup]
  | a :: b :: l, _, h => by
    have ha := h a (by simp)
    have hb := h b (by simp)
    unfold ddup
    rw [if_pos (by rw [ha, hb]; simp)]
    exact ddup_const z (by simp) fun x hx => h x (List.mem_cons_of_mem _ hx)
end Cp

/-! Num2: dicts with signs as keys; reversing. -/
namespace Cp
open L2 PyProof.Rows PySem PySem.Spec Vd
def kS (c : Nat) : Key := Sum.inr (S [c])
def dSs (f : List (Nat × Nat)) : List (Key × Pd) := f.map fun p => (kS p.1, pR [p.2])
def lkS (f : List (Nat × Nat)) (c : Nat) : Option Nat := (f.find? fun p => decide (p.1 = c)).map (·.2)
theorem kS_inj {a b : Nat} : kS a = kS b ↔ a = b := by
  unfold kS
  constructor
  · intro h
    have := S_inj.mp (Sum.inr.inj h)
    simpa using this
  · rintro rfl; rfl
theorem lk_S : ∀ (f : List (Nat × Nat)) (c : Nat), lk (dSs f) (kS c) = (lkS f c).map fun x => pR [x]
  | [], c => rfl
  | (a, x) :: r, c => by
    have ih := lk_S r c
    unfold lk lkS dSs at ih ⊢
    by_cases h : a = c
    · subst h; simp
    · have h' : kS a ≠ kS c := fun q => h (kS_inj.mp q)
      simp only [List.map_cons, List.find?_cons, h, h', decide_false]
      exact ih
theorem pt_S (f : List (Nat × Nat)) (c x : Nat) (h : c ∉ f.map (·.1)) : pt (dSs f) (kS c) (pR [x]) = dSs (f ++ [(c, x)]) := by
  unfold pt
  rw [if_neg]
  · simp [dSs]
  · simp only [List.any_eq_true, decide_eq_true_eq, dSs, List.mem_map]
    rintro ⟨_, ⟨p, hp, rfl⟩, h2⟩
    exact h (by rw [← kS_inj.mp h2]; exact List.mem_map_of_mem hp)
theorem lkS_none (f : List (Nat × Nat)) (c : Nat) : (lkS f c).isSome = decide (c ∈ f.map (·.1)) := by
  unfold lkS
  rw [Bool.eq_iff_iff, Option.isSome_map, List.find?_isSome]
  simp
theorem dLook_S (f : List (Nat × Nat)) (c : Nat) : dLook (.dK (dSs f)) (wS [c]) = .ok (lk (dSs f) (kS c)) := rfl
theorem pIn_SD (n : Bool) (c : Nat) (f : List (Nat × Nat)) : pInW n (wS [c]) (.dK (dSs f)) = .ok (bv (if n = true then decide (¬ c ∈ f.map (·.1)) else decide (c ∈ f.map (·.1)))) := by
  have h : pIn (wS [c]) (.dK (dSs f)) = .ok (decide (c ∈ f.map (·.1))) := by
    have h0 : pIn (wS [c]) (.dK (dSs f)) = (dLook (.dK (dSs f)) (wS [c])).bind fun o => .ok o.isSome := by simp only [pIn, wS]
    rw [h0, dLook_S, lk_S]
    show R.ok _ = _
    rw [Option.isSome_map, lkS_none]
  unfold pInW; rw [h]
  show R.ok (bv _) = _
  cases n <;> by_cases q : c ∈ f.map (·.1) <;> simp [q]
theorem pDGet_S (f : List (Nat × Nat)) (c : Nat) : pDGet (.dK (dSs f)) (wS [c]) (wS [c]) = .ok (wS [(lkS f c).getD c]) := by
  unfold pDGet
  rw [dLook_S, lk_S, bindok]
  cases lkS f c <;> rfl
theorem gPut_S {i : Nat} {kf vf : Rho → R W} {ρ : Rho} {f : List (Nat × Nat)} {c x : Nat} (h : ρ[i]? = some (.ow (.dK (dSs f)))) (hk : kf ρ = .ok (wS [c])) (hv : vf ρ = .ok (wS [x])) (hc : c ∉ f.map (·.1)) (hl : f.length < sizeLine) :
    gPut i kf vf ρ = .ok (.nx (ρ.set i (.ow (.dK (dSs (f ++ [(c, x)])))))) := by
  unfold gPut
  have e1 : asDat (wS [x]) = .ok (pR [x]) := rfl
  have e2 : asDat (wS [c]) = .ok (pR [c]) := rfl
  have e3 : keyK (pR [c]) = some (kS c) := rfl
  simp only [hv, bindok, e1, h, hk, e2, e3]
  rw [if_pos (by simpa [dSs] using hl), pt_S f c x hc]
theorem pLen_SD (f : List (Nat × Nat)) : pLen [.dK (dSs f)] = .ok (wI f.length) := by
  show R.ok (wI (dSs f).length) = _
  unfold dSs; rw [List.length_map]
theorem pRevA_R (r : List Nat) (h : r.length ≤ 1000) : pRevA (wR r) = .ok (wR r.reverse) := by
  show (if (S r).length ≤ sizeLine then R.ok (W.dat (.str (S (S r).cps.toList.reverse))) else .no) = _
  rw [if_pos (by rw [Slen]; unfold sizeLine; omega)]; rfl
theorem pRevA_B (b : Bd) : pRevA (wB b) = .ok (wB b.reverse) := by
  show R.ok (W.dat (.tuple (b.map pR).reverse)) = R.ok (W.dat (.tuple (b.reverse.map pR)))
  rw [List.map_reverse]
theorem pRevA_Cs (l : List C2) : pRevA (wCs l) = .ok (wCs l.reverse) := by
  show R.ok (W.dat (.list (l.map pC).reverse)) = R.ok (W.dat (.list (l.reverse.map pC)))
  rw [List.map_reverse]
theorem pTuple_R (b : Bd) : pTuple [.dat (.list (b.map pR))] = .ok (wB b) := rfl
/-! lists of patches, of rows of numbers as data -/
theorem eqv_Ps (l m : List (List C2)) : PyData.eqv (.list (l.map pCs)) (.list (m.map pCs)) = decide (l = m) := by simp only [PyData.eqv]; exact eqvAll_map pCs eqv_Cs l m
theorem lay_Ps (l : List (List C2)) : (PyData.list (l.map pCs)).canLay0 = true := by simp only [PyData.canLay0]; exact layAll_map pCs l fun a _ => lay_Cs a
theorem dep_Ps (l : List (List C2)) : (PyData.list (l.map pCs)).depth ≤ 3 := by simp only [PyData.depth]; have := depthAll_map pCs 2 dep_Cs l; omega
theorem srtK_self {l : List C2} (h : l.Pairwise fun a b => leC a b = true) (nd : l.Nodup) : srtK l = l := by
  unfold srtK
  rw [ddup_id nd]
  exact sorted_eq (mergeC_sorted l) h (List.mergeSort_perm l _)
end Cp

/-! Num3: dicts by numbers, rows of numbers and their least. -/
namespace Cp
open L2 PyProof.Rows PySem PySem.Spec Vd
section
variable {α : Type} (e : α → Pd)
def dIs (f : List (Int × α)) : List (Key × Pd) := f.map fun p => (Sum.inl p.1, e p.2)
def lkI (f : List (Int × α)) (c : Int) : Option α := (f.find? fun p => decide (p.1 = c)).map (·.2)
theorem lk_I : ∀ (f : List (Int × α)) (c : Int), lk (dIs e f) (Sum.inl c) = (lkI f c).map e
  | [], c => rfl
  | p :: f, c => by
    have ih := lk_I f c
    unfold lk lkI dIs at ih ⊢
    rw [List.map_cons, List.find?_cons, List.find?_cons]
    by_cases h : p.1 = c
    · have h1 : decide ((Sum.inl p.1 : Key) = Sum.inl c) = true := by simp [h]
      have h2 : decide (p.1 = c) = true := by simp [h]
      rw [h1, h2]; rfl
    · have h1 : decide ((Sum.inl p.1 : Key) = Sum.inl c) = false := by simp [h]
      have h2 : decide (p.1 = c) = false := by simp [h]
      rw [h1, h2]; exact ih
def putI (f : List (Int × α)) (p : Int) (x : α) : List (Int × α) := if p ∈ f.map (·.1) then f.map fun q => if q.1 = p then (p, x) else q else f ++ [(p, x)]
theorem pt_I (f : List (Int × α)) (p : Int) (x : α) : pt (dIs e f) (Sum.inl p) (e x) = dIs e (putI f p x) := by
  unfold putI pt
  by_cases h : p ∈ f.map (·.1)
  · rw [if_pos h, if_pos]
    · unfold dIs
      rw [List.map_map, List.map_map]
      apply List.map_congr_left
      intro q _
      show (if (Sum.inl q.1 : Key) = Sum.inl p then _ else _) = ((Sum.inl (if q.1 = p then (p, x) else q).1 : Key), e (if q.1 = p then (p, x) else q).2)
      by_cases c : q.1 = p
      · rw [if_pos (by rw [c]), if_pos c]; simp [c]
      · rw [if_neg (fun z => c (Sum.inl.inj z)), if_neg c]
    · simp only [List.any_eq_true, decide_eq_true_eq, dIs, List.mem_map]
      obtain ⟨q, hq, rfl⟩ := List.mem_map.mp h
      exact ⟨_, ⟨q, hq, rfl⟩, rfl⟩
  · rw [if_neg h, if_neg]
    · simp [dIs]
    · simp only [List.any_eq_true, decide_eq_true_eq, dIs, List.mem_map]
      rintro ⟨x, ⟨q, hq, rfl⟩, h2⟩
      exact h (List.mem_map.mpr ⟨q, hq, Sum.inl.inj h2⟩)
theorem putI_keys (f : List (Int × α)) (p : Int) (x : α) (c : Int) : c ∈ (putI f p x).map (·.1) ↔ c ∈ f.map (·.1) ∨ c = p := by
  unfold putI
  by_cases h : p ∈ f.map (·.1)
  · rw [if_pos h]
    have e : (f.map fun q => if q.1 = p then (p, x) else q).map (·.1) = f.map (·.1) := by
      rw [List.map_map]; apply List.map_congr_left; intro q _
      show (if q.1 = p then (p, x) else q).1 = q.1
      by_cases c : q.1 = p
      · rw [if_pos c]; exact c.symm
      · rw [if_neg c]
    rw [e]
    exact ⟨.inl, fun q => q.elim id fun q => q ▸ h⟩
  · rw [if_neg h]; simp
theorem putI_nodup {f : List (Int × α)} (p : Int) (x : α) (nd : (f.map (·.1)).Nodup) : ((putI f p x).map (·.1)).Nodup := by
  unfold putI
  by_cases h : p ∈ f.map (·.1)
  · rw [if_pos h]
    have e : (f.map fun q => if q.1 = p then (p, x) else q).map (·.1) = f.map (·.1) := by
      rw [List.map_map]; apply List.map_congr_left; intro q _
      show (if q.1 = p then (p, x) else q).1 = q.1
      by_cases c : q.1 = p
      · rw [if_pos c]; exact c.symm
      · rw [if_neg c]
    rw [e]; exact nd
  · rw [if_neg h, List.map_append]
    exact List.nodup_append.mpr ⟨nd, by simp, fun a ha b hb => by simp at hb; subst hb; exact fun z => h (z ▸ ha)⟩
theorem putI_len (f : List (Int × α)) (p : Int) (x : α) : (putI f p x).length ≤ f.length + 1 := by
  unfold putI; split <;> simp
theorem lkI_isSome (f : List (Int × α)) (c : Int) : (lkI f c).isSome = decide (c ∈ f.map (·.1)) := by
  unfold lkI
  rw [Option.isSome_map, Bool.eq_iff_iff, List.find?_isSome]
  simp
theorem lkI_mem {f : List (Int × α)} {c : Int} (h : c ∈ f.map (·.1)) : ∃ x, lkI f c = some x := by
  have := lkI_isSome f c
  rw [decide_eq_true h] at this
  exact Option.isSome_iff_exists.mp this
theorem lkI_put (f : List (Int × α)) (p : Int) (x : α) (c : Int) : lkI (putI f p x) c = if c = p then some x else lkI f c := by
  unfold putI
  by_cases h : p ∈ f.map (·.1)
  · rw [if_pos h]
    induction f with
    | nil => simp at h
    | cons q f ih =>
      unfold lkI at ih ⊢
      rw [List.map_cons, List.find?_cons, List.find?_cons]
      by_cases c1 : q.1 = p
      · rw [if_pos c1]
        by_cases c2 : c = p
        · subst c2; simp
        · have : ¬ p = c := fun z => c2 z.symm
          have c3 : ¬ q.1 = c := by rw [c1]; exact this
          simp only [this, c3, decide_false, c2, if_false]
          by_cases h' : p ∈ f.map (·.1)
          · have := ih h'; rw [if_neg c2] at this; exact this
          · congr 1
            have : (f.map fun q => if q.1 = p then (p, x) else q) = f := by
              rw [List.map_congr_left (g := id), List.map_id]
              intro a ha
              rw [if_neg fun z => h' (List.mem_map.mpr ⟨a, ha, z⟩)]; rfl
            rw [this]
      · rw [if_neg c1]
        have h' : p ∈ f.map (·.1) := by
          rw [List.map_cons] at h
          rcases List.mem_cons.mp h with z | z
          · exact absurd z.symm c1
          · exact z
        by_cases c2 : q.1 = c
        · have c3 : ¬ c = p := by rw [← c2]; exact c1
          simp [c2, c3]
        · simp only [c2, decide_false]
          exact ih h'
  · rw [if_neg h]
    unfold lkI
    rw [List.find?_append]
    by_cases c2 : c = p
    · subst c2
      have : (f.find? fun p => decide (p.1 = c)) = none := List.find?_eq_none.mpr fun a ha => by simpa using fun z => h (List.mem_map.mpr ⟨a, ha, z⟩)
      rw [this]; simp
    · have : ¬ p = c := fun z => c2 z.symm
      simp [this, c2]
theorem gPut_I {i : Nat} {kf vf : Rho → R W} {ρ : Rho} {f : List (Int × α)} {c : Int} {x : α} (h : ρ[i]? = some (.ow (.dK (dIs e f)))) (hk : kf ρ = .ok (wI c)) (hv : vf ρ = .ok (.dat (e x))) (hl : f.length < sizeLine) :
    gPut i kf vf ρ = .ok (.nx (ρ.set i (.ow (.dK (dIs e (putI f c x)))))) := by
  unfold gPut
  have hk2 : keyK (.int c) = some (Sum.inl c) := rfl
  simp only [hv, bindok, asDat_dat, h, hk, asDat_wI, hk2]
  rw [if_pos (by simpa [dIs] using hl), pt_I e f c x]
theorem dLook_I (f : List (Int × α)) (c : Int) : dLook (.dK (dIs e f)) (wI c) = .ok ((lkI f c).map e) := by
  show R.ok (lk (dIs e f) (Sum.inl c)) = _
  rw [lk_I]
theorem pGet_DI (f : List (Int × α)) (c : Int) {x : α} (h : lkI f c = some x) : pGet (.dK (dIs e f)) (wI c) = .ok (.dat (e x)) := by
  have h0 : pGet (.dK (dIs e f)) (wI c) = (dLook (.dK (dIs e f)) (wI c)).bind (optW .dat) := by simp only [pGet, wI]
  rw [h0, dLook_I, bindok, h]; rfl
theorem pIn_DI (n : Bool) (c : Int) (f : List (Int × α)) : pInW n (wI c) (.dK (dIs e f)) = .ok (bv (if n = true then decide (¬ c ∈ f.map (·.1)) else decide (c ∈ f.map (·.1)))) := by
  have h : pIn (wI c) (.dK (dIs e f)) = .ok (decide (c ∈ f.map (·.1))) := by
    have h0 : pIn (wI c) (.dK (dIs e f)) = (dLook (.dK (dIs e f)) (wI c)).bind fun o => .ok o.isSome := by simp only [pIn, wI]
    rw [h0, dLook_I, bindok, Option.isSome_map, lkI_isSome]
  unfold pInW; rw [h]
  show R.ok (bv _) = _
  cases n <;> by_cases q : c ∈ f.map (·.1) <;> simp [q]
theorem items_DI (f : List (Int × α)) : items (.dK (dIs e f)) = .ok (f.map fun p => wI p.1) := by
  simp only [items, dIs, List.map_map]; rfl
theorem dIs_nil : W.dK [] = .dK (dIs e []) := rfl
theorem dIs_one (c : Int) (x : α) : W.dK [(Sum.inl c, e x)] = .dK (dIs e [(c, x)]) := rfl
end
theorem items_DC {α : Type} (e : α → Pd) (f : List (C2 × α)) : items (.dT (dCs e f)) = .ok (f.map fun p => wC p.1) := by
  simp only [items, dCs, List.map_map]; rfl
def eJ : Nat → Pd := fun n => .int (n : Nat)
theorem pDGet_I (f : List (Int × Nat)) (p : Int) : pDGet (.dK (dIs eJ f)) (wI p) (wI 0) = .ok (wI ((lkI f p).getD 0 : Nat)) := by
  unfold pDGet
  rw [dLook_I, bindok]
  cases lkI f p <;> rfl
/-! rows of numbers -/
def pV (t : List Int) : Pd := .tuple (t.map .int)
def wV (t : List Int) : W := .dat (pV t)
def wVs (l : List (List Int)) : W := .dat (.list (l.map pV))
theorem alikeV : ∀ a b : List Int, PySem.W.alikeAll (a.map PyData.int) (b.map PyData.int) = true
  | [], _ => by simp [PySem.W.alikeAll]
  | _ :: _, [] => by simp [PySem.W.alikeAll]
  | x :: a, y :: b => by simp [PySem.W.alikeAll, PySem.W.alike, alikeV a b]
theorem depV : ∀ a : List Int, PyData.depthAll (a.map PyData.int) ≤ 1
  | [] => by simp [PyData.depthAll]
  | x :: a => by have := depV a; simp [PyData.depthAll, PyData.depth] at this ⊢; omega
theorem dep_V (t : List Int) : (pV t).depth ≤ 2 := by
  have := depV t
  unfold pV; rw [PyData.depth]; omega
theorem lt_V (a b : List Int) : PySem.W.dataLt (pV a) (pV b) = decide (a < b) := by
  unfold pV
  rw [PySem.W.dataLt_tuple]
  have := PySem.W.dataLt_ints a b
  unfold PySem.W.rowLt at this
  exact this
def minV (a : List Int) (l : List (List Int)) : List Int := l.foldl (fun a y => if y < a then y else a) a
theorem minD_V (l : List (List Int)) : ∀ a : List Int, PySem.W.minD (pV a) (l.map pV) = pV (minV a l) := by
  unfold PySem.W.minD minV
  induction l with
  | nil => intro a; rfl
  | cons y l ih =>
    intro a
    rw [List.map_cons, List.foldl_cons, List.foldl_cons, lt_V]
    by_cases c : y < a
    · rw [decide_eq_true c, if_pos rfl, if_pos c]; exact ih y
    · rw [decide_eq_false c, if_neg (by simp), if_neg c]; exact ih a
theorem minV_mem (l : List (List Int)) : ∀ a : List Int, minV a l ∈ a :: l := by
  unfold minV
  induction l with
  | nil => intro a; simp
  | cons y l ih =>
    intro a
    rw [List.foldl_cons]
    have := ih (if y < a then y else a)
    rcases List.mem_cons.mp this with q | q
    · rw [q]; split <;> simp
    · exact List.mem_cons_of_mem _ (List.mem_cons_of_mem _ q)
theorem minV_le (l : List (List Int)) : ∀ a : List Int, minV a l ≤ a ∧ ∀ x ∈ l, minV a l ≤ x := by
  unfold minV
  induction l with
  | nil => intro a; exact ⟨List.le_refl _, fun x h => by simp at h⟩
  | cons y l ih =>
    intro a
    rw [List.foldl_cons]
    obtain ⟨h1, h2⟩ := ih (if y < a then y else a)
    have h3 : (if y < a then y else a) ≤ a ∧ (if y < a then y else a) ≤ y := by
      by_cases c : y < a
      · rw [if_pos c]; exact ⟨List.le_of_lt c, List.le_refl _⟩
      · rw [if_neg c]; exact ⟨List.le_refl _, c⟩
    refine ⟨List.le_trans h1 h3.1, fun x hx => ?_⟩
    rcases List.mem_cons.mp hx with q | q
    · rw [q]; exact List.le_trans h1 h3.2
    · exact h2 x q
theorem pMinR_V (a : List Int) (l : List (List Int)) : pMinR [wVs (a :: l)] = .ok (wV (minV a l)) := by
  have h : PySem.W.AlikeAll (pV a :: l.map pV) ∧ ∀ e ∈ (pV a :: l.map pV : List Pd), e.depth ≤ 60 := by
    have key : ∀ x ∈ (pV a :: l.map pV : List Pd), ∃ t, x = pV t := fun x hx => by
      rcases List.mem_cons.mp hx with q | q
      · exact ⟨a, q⟩
      · obtain ⟨t, _, e⟩ := List.mem_map.mp q; exact ⟨t, e.symm⟩
    refine ⟨⟨fun x hx y hy => ?_, fun x hx => ?_⟩, fun x hx => ?_⟩
    · obtain ⟨t, rfl⟩ := key x hx
      obtain ⟨u, rfl⟩ := key y hy
      unfold pV; rw [PySem.W.alike]; exact alikeV t u
    · obtain ⟨t, rfl⟩ := key x hx; exact fun h => nomatch h
    · obtain ⟨t, rfl⟩ := key x hx; have := dep_V t; omega
  show (@ite _ (PySem.W.AlikeAll (pV a :: l.map pV) ∧ ∀ e ∈ (pV a :: l.map pV : List Pd), e.depth ≤ 60) (Classical.propDecidable _) (R.ok (W.dat (PySem.W.minD (pV a) (l.map pV)))) R.no) = _
  rw [if_pos h, minD_V]; rfl
theorem lay_V (t : List Int) : (pV t).canLay0 = true := by
  simp only [pV, PyData.canLay0]; exact layAll_map PyData.int t fun i _ => by simp [PyData.canLay0]
theorem sh_Vs (l : List (List Int)) : SeqAt.shaped (.list (l.map pV)) = true := by
  refine sh_mk ?_ ?_
  · simp only [PyData.canLay0]; exact layAll_map pV l fun t _ => lay_V t
  · have := depthAll_map pV 2 dep_V l
    rw [PyData.depth]; omega
theorem eqv_V (a b : List Int) : PyData.eqv (pV a) (pV b) = decide (a = b) := by simp only [pV, PyData.eqv]; exact eqvAll_map PyData.int eqv_I a b
theorem eqv_Vs (l m : List (List Int)) : PyData.eqv (.list (l.map pV)) (.list (m.map pV)) = decide (l = m) := by simp only [PyData.eqv]; exact eqvAll_map pV eqv_V l m
theorem pEq_Vs (n : Bool) (i j : List (List Int)) : pEq n (wVs i) (wVs j) = .ok (bv (if n = true then decide (¬ i = j) else decide (i = j))) := pEq_mk (sh_Vs i) (sh_Vs j) (eqv_Vs i j)
theorem wVs_nil : W.dat (PyData.list []) = wVs [] := rfl
theorem pGet_V (t : List Int) {i : Nat} (h : i < t.length) : pGet (wV t) (wI i) = .ok (wI (t.getD i 0)) := by
  show optW .dat (atI (t.map PyData.int) (i : Int)) = _
  rw [atI_pos (by omega) (by simpa using h), Int.toNat_natCast, List.getElem?_map, List.getElem?_eq_getElem h, List.getD_eq_getElem?_getD, List.getElem?_eq_getElem h]; rfl
end Cp

/-! Num4: dicts as lists of pairs, written over; dicts by cells; cells in order. -/
namespace Cp
open L2 PyProof.Rows PySem PySem.Spec Vd
section
variable {κ α : Type} [DecidableEq κ]
theorem lk_cons (p : κ × α) (f : List (κ × α)) (c : κ) : lk (p :: f) c = if p.1 = c then some p.2 else lk f c := by
  unfold lk
  rw [List.find?_cons]
  by_cases h : p.1 = c <;> simp [h]
theorem lk_append (f g : List (κ × α)) (c : κ) : lk (f ++ g) c = (lk f c).or (lk g c) := by
  unfold lk
  rw [List.find?_append]
  cases f.find? fun kv => decide (kv.1 = c) <;> simp
theorem lk_none_iff {f : List (κ × α)} {c : κ} : lk f c = none ↔ c ∉ f.map (·.1) := by
  unfold lk
  rw [Option.map_eq_none_iff, List.find?_eq_none]
  simp only [decide_eq_true_eq, List.mem_map, not_exists, not_and]
theorem lk_isSome (f : List (κ × α)) (c : κ) : (lk f c).isSome = decide (c ∈ f.map (·.1)) := by
  unfold lk
  rw [Option.isSome_map, Bool.eq_iff_iff, List.find?_isSome]
  simp
theorem lk_mem {f : List (κ × α)} {c : κ} (h : c ∈ f.map (·.1)) : ∃ x, lk f c = some x := by
  have := lk_isSome f c
  rw [decide_eq_true h] at this
  exact Option.isSome_iff_exists.mp this
theorem lk_keyed (l : List κ) (g : κ → α) {c : κ} (h : c ∈ l) : lk (l.map fun a => (a, g a)) c = some (g c) := by
  induction l with
  | nil => simp at h
  | cons a l ih =>
    rw [List.map_cons, lk_cons]
    by_cases e : a = c
    · subst e; simp
    · rw [if_neg e]; rcases List.mem_cons.mp h with q | q
      · exact (e q.symm).elim
      · exact ih q
theorem pt_eq (f : List (κ × α)) (p : κ) (x : α) : pt f p x = if p ∈ f.map (·.1) then f.map (fun q => if q.1 = p then (q.1, x) else q) else f ++ [(p, x)] := by
  unfold pt
  by_cases h : p ∈ f.map (·.1)
  · rw [if_pos h, if_pos]
    simp only [List.any_eq_true, decide_eq_true_eq]
    obtain ⟨q, hq, rfl⟩ := List.mem_map.mp h
    exact ⟨q, hq, rfl⟩
  · rw [if_neg h, if_neg]
    simp only [List.any_eq_true, decide_eq_true_eq]
    rintro ⟨q, hq, rfl⟩
    exact h (List.mem_map.mpr ⟨q, hq, rfl⟩)
theorem pt_keys (f : List (κ × α)) (p : κ) (x : α) : (pt f p x).map (·.1) = if p ∈ f.map (·.1) then f.map (·.1) else f.map (·.1) ++ [p] := by
  rw [pt_eq]
  by_cases h : p ∈ f.map (·.1)
  · rw [if_pos h, if_pos h, List.map_map]
    apply List.map_congr_left
    intro q _
    show (if q.1 = p then (q.1, x) else q).1 = q.1
    split <;> rfl
  · rw [if_neg h, if_neg h]; simp
theorem pt_mem (f : List (κ × α)) (p : κ) (x : α) (c : κ) : c ∈ (pt f p x).map (·.1) ↔ c ∈ f.map (·.1) ∨ c = p := by
  rw [pt_keys]
  by_cases h : p ∈ f.map (·.1)
  · rw [if_pos h]; exact ⟨.inl, fun q => q.elim id fun q => q ▸ h⟩
  · rw [if_neg h]; simp
theorem pt_nodup {f : List (κ × α)} (p : κ) (x : α) (nd : (f.map (·.1)).Nodup) : ((pt f p x).map (·.1)).Nodup := by
  rw [pt_keys]
  by_cases h : p ∈ f.map (·.1)
  · rw [if_pos h]; exact nd
  · rw [if_neg h]
    exact List.nodup_append.mpr ⟨nd, by simp, fun a ha b hb => by simp at hb; subst hb; exact fun z => h (z ▸ ha)⟩
theorem pt_len (f : List (κ × α)) (p : κ) (x : α) : (pt f p x).length ≤ f.length + 1 := by
  rw [pt_eq]; split <;> simp
theorem lk_pt (f : List (κ × α)) (p : κ) (x : α) (c : κ) : lk (pt f p x) c = if c = p then some x else lk f c := by
  rw [pt_eq]
  by_cases h : p ∈ f.map (·.1)
  · rw [if_pos h]
    have h2 : ∀ f : List (κ × α), lk (f.map fun q => if q.1 = p then (q.1, x) else q) c = if c = p then (if p ∈ f.map (·.1) then some x else none) else lk f c := by
      intro f
      induction f with
      | nil => by_cases q : c = p <;> simp [q, lk]
      | cons q f ih =>
        rw [List.map_cons, lk_cons, lk_cons, ih]
        have e1 : (if q.1 = p then (q.1, x) else q).1 = q.1 := by split <;> rfl
        rw [e1]
        by_cases c1 : q.1 = c
        · rw [if_pos c1, if_pos c1]
          by_cases c2 : c = p
          · rw [if_pos c2, if_pos (by rw [c1, c2]), if_pos (by rw [List.map_cons, c1, c2]; exact List.mem_cons_self)]
          · rw [if_neg c2, if_neg (by rw [c1]; exact c2)]
        · rw [if_neg c1, if_neg c1]
          by_cases c2 : c = p
          · rw [if_pos c2, if_pos c2]
            have : p ∈ (q :: f).map (·.1) ↔ p ∈ f.map (·.1) := by
              rw [List.map_cons, List.mem_cons]
              exact ⟨fun z => z.elim (fun z => (c1 (by rw [c2, z])).elim) id, .inr⟩
            by_cases m : p ∈ f.map (·.1)
            · rw [if_pos m, if_pos (this.mpr m)]
            · rw [if_neg m, if_neg (fun z => m (this.mp z))]
          · rw [if_neg c2, if_neg c2]
    rw [h2, if_pos h]
  · rw [if_neg h, lk_append, lk_cons]
    by_cases c2 : c = p
    · subst c2
      rw [lk_none_iff.mpr h]; simp
    · rw [if_neg fun z => c2 z.symm, if_neg c2]
      simp [lk]
/-- a dict is told by its keys and what stands there -/
theorem keyed_eq {f : List (κ × α)} {l : List κ} {g : κ → α} (hk : f.map (·.1) = l) (nd : l.Nodup) (h : ∀ c ∈ l, lk f c = some (g c)) : f = l.map fun c => (c, g c) := by
  induction f generalizing l with
  | nil => cases hk; rfl
  | cons p f ih =>
    cases hk
    have nd : p.1 ∉ f.map (·.1) ∧ (f.map (·.1)).Nodup := by simpa using nd
    rw [List.map_cons, List.map_cons]
    congr 1
    · have := h p.1 List.mem_cons_self
      rw [lk_cons, if_pos rfl] at this
      exact Prod.ext rfl (Option.some.inj this)
    · refine ih rfl nd.2 fun c hc => ?_
      have := h c (List.mem_cons_of_mem _ hc)
      rw [lk_cons, if_neg fun z : p.1 = c => nd.1 (by rw [z]; exact hc)] at this
      exact this
end
section
variable {α : Type} (e : α → Pd)
theorem lkC_lk (f : List (C2 × α)) (c : C2) : lkC f c = lk f c := rfl
theorem pt_Cp (f : List (C2 × α)) (c : C2) (x : α) : pt (dCs e f) (kC c) (e x) = dCs e (pt f c x) := by
  rw [pt_eq, pt_eq]
  have h2 : kC c ∈ (dCs e f).map (·.1) ↔ c ∈ f.map (·.1) := by
    unfold dCs
    rw [List.map_map]
    constructor
    · intro h
      obtain ⟨q, hq, h3⟩ := List.mem_map.mp h
      exact List.mem_map.mpr ⟨q, hq, kC_inj.mp h3⟩
    · intro h
      obtain ⟨q, hq, h3⟩ := List.mem_map.mp h
      exact List.mem_map.mpr ⟨q, hq, by rw [← h3]; rfl⟩
  by_cases h : c ∈ f.map (·.1)
  · rw [if_pos h, if_pos (h2.mpr h)]
    unfold dCs
    rw [List.map_map, List.map_map]
    apply List.map_congr_left
    intro q _
    show (if kC q.1 = kC c then (kC q.1, e x) else (kC q.1, e q.2)) = (kC (if q.1 = c then (q.1, x) else q).1, e (if q.1 = c then (q.1, x) else q).2)
    by_cases c1 : q.1 = c
    · rw [if_pos (by rw [c1]), if_pos c1]
    · rw [if_neg (fun z => c1 (kC_inj.mp z)), if_neg c1]
  · rw [if_neg h, if_neg (fun z => h (h2.mp z))]
    simp [dCs]
theorem gPut_Cp {i : Nat} {kf vf : Rho → R W} {ρ : Rho} {f : List (C2 × α)} {c : C2} {x : α} (h : ρ[i]? = some (.ow (.dT (dCs e f)))) (hk : kf ρ = .ok (wC c)) (hv : vf ρ = .ok (.dat (e x))) (hl : f.length < sizeLine) :
    gPut i kf vf ρ = .ok (.nx (ρ.set i (.ow (.dT (dCs e (pt f c x)))))) := by
  unfold gPut
  simp only [hv, bindok, asDat_dat, h, hk, asDat_wC, keyT_C]
  rw [if_pos (by simpa [dCs] using hl), pt_Cp e f c x]
theorem pDGet_Cd (f : List (C2 × α)) (c : C2) (x : α) : pDGet (.dT (dCs e f)) (wC c) (.dat (e x)) = .ok (.dat (e ((lk f c).getD x))) := by
  unfold pDGet
  rw [dLook_C, bindok, lk_C]
  show (match (lk f c).map e with | some p => R.ok (W.dat p) | none => _) = _
  cases lk f c <;> rfl
end
/-- one cell ahead of another -/
def ltB (a b : C2) : Bool := decide (a.1 < b.1 ∨ (a.1 = b.1 ∧ a.2 < b.2))
theorem dataLt_C (a b : C2) : PySem.W.dataLt (pC a) (pC b) = ltB a b := by
  unfold pC ltB
  rw [PySem.W.dataLt_ii]
theorem alike_C (a b : C2) : PySem.W.alike (pC a) (pC b) = true := by
  unfold pC; simp [PySem.W.alike, PySem.W.alikeAll]
theorem pLtD_C (a b : C2) : pLtD (wC a) (wC b) = .ok (bv (ltB a b)) := by
  have h : pLtD (wC a) (wC b) = @ite _ (PySem.W.alike (pC a) (pC b) = true ∧ (pC a).depth ≤ 60) (Classical.propDecidable _) (.ok (bv (PySem.W.dataLt (pC a) (pC b)))) .no := rfl
  rw [h, if_pos ⟨alike_C a b, by simp [pC, PyData.depth, PyData.depthAll]⟩, dataLt_C]
def minC (a b : C2) : C2 := if ltB b a = true then b else a
theorem pMin2D_C (a b : C2) : pMin2D [wC a, wC b] = .ok (wC (minC a b)) := by
  have h : pMin2D [wC a, wC b] = @ite _ (PySem.W.AlikeAll [pC a, pC b] ∧ ∀ e ∈ ([pC a, pC b] : List Pd), e.depth ≤ 60) (Classical.propDecidable _) (.ok (.dat (.tuple (if PySem.W.dataLt (pC b) (pC a) = true then [.int b.1, .int b.2] else [.int a.1, .int a.2])))) .no := rfl
  have d : ∀ c : C2, (pC c).depth ≤ 60 := fun c => by simp [pC, PyData.depth, PyData.depthAll]
  have hm : ∀ x ∈ ([pC a, pC b] : List Pd), x = pC a ∨ x = pC b := fun x hx => by simpa using hx
  have h1 : ∀ x ∈ ([pC a, pC b] : List Pd), ∀ y ∈ ([pC a, pC b] : List Pd), PySem.W.alike x y = true := fun x hx y hy => by
    rcases hm x hx with rfl | rfl <;> rcases hm y hy with rfl | rfl <;> exact alike_C _ _
  have h2 : ∀ x ∈ ([pC a, pC b] : List Pd), x ≠ .none := fun x hx => by
    rcases hm x hx with rfl | rfl <;> exact fun z => nomatch z
  have h3 : ∀ x ∈ ([pC a, pC b] : List Pd), x.depth ≤ 60 := fun x hx => by
    rcases hm x hx with rfl | rfl <;> exact d _
  rw [h, if_pos ⟨⟨h1, h2⟩, h3⟩, dataLt_C]
  unfold minC
  by_cases c : ltB b a = true
  · rw [if_pos c, if_pos c]; rfl
  · rw [if_neg c, if_neg c]; rfl
theorem pGtD_C (a b : C2) : pGtD (wC a) (wC b) = .ok (bv (ltB b a)) := by
  have h : pGtD (wC a) (wC b) = @ite _ (PySem.W.alike (pC a) (pC b) = true ∧ (pC a).depth ≤ 60) (Classical.propDecidable _) (.ok (bv (PySem.W.dataLt (pC b) (pC a)))) .no := rfl
  rw [h, if_pos ⟨alike_C a b, by simp [pC, PyData.depth, PyData.depthAll]⟩, dataLt_C]
end Cp

namespace Cp
open L2 PyProof.Rows PySem PySem.Spec Vd

def topS (i : Nat) : Stmt := PySem.Challenge.pw_cellpatches_k11_whole_patches.main.body.getD i (.Pass ⟨0, 0, 0, 0⟩)
def c_LETTERS : W := .dat (.str (S [97, 98, 99, 100, 101, 102]))
def c_MOST : W := .dat (.int (8))
def c_STEPS4 : W := .kdat (.tuple [.tuple [.int (-1), .int (0)], .tuple [.int (0), .int (-1)], .tuple [.int (0), .int (1)], .tuple [.int (1), .int (0)]])
def c_STEPS8 : W := .kdat (.tuple [.tuple [.int (-1), .int (-1)], .tuple [.int (-1), .int (0)], .tuple [.int (-1), .int (1)], .tuple [.int (0), .int (-1)], .tuple [.int (0), .int (1)], .tuple [.int (1), .int (-1)], .tuple [.int (1), .int (0)], .tuple [.int (1), .int (1)]])
structure Txt (K : PySem.W.Frag) (mg : Str → Option Value) : Prop where
  n_all : mg "all" = none
  n_bool : mg "bool" = none
  n_dict : mg "dict" = none
  n_enumerate : mg "enumerate" = none
  n_int : mg "int" = none
  n_isinstance : mg "isinstance" = none
  n_len : mg "len" = none
  n_range : mg "range" = none
  n_set : mg "set" = none
  n_sorted : mg "sorted" = none
  n_str : mg "str" = none
  n_tuple : mg "tuple" = none
  n_zip : mg "zip" = none
  c_LETTERS : ConK K mg "LETTERS" c_LETTERS
  c_MOST : ConK K mg "MOST" c_MOST
  c_STEPS4 : ConK K mg "STEPS4" c_STEPS4
  c_STEPS8 : ConK K mg "STEPS8" c_STEPS8
  x_NoBoard : ExcK K mg "NoBoard"
  x_NoCell : ExcK K mg "NoCell"
  x_NoWays : ExcK K mg "NoWays"
  d_is_number : DefK K mg "is_number" (topS 10) ["thing", "low", "high"]
  d_is_board : DefK K mg "is_board" (topS 11) ["thing"]
  d_need_board : DefK K mg "need_board" (topS 12) ["board"]
  d_need_ways : DefK K mg "need_ways" (topS 13) ["ways"]
  d_is_cell : DefK K mg "is_cell" (topS 14) ["board", "thing"]
  d_need_cell : DefK K mg "need_cell" (topS 15) ["board", "cell"]
  d_cells : DefK K mg "cells" (topS 16) ["board"]
  d_letter_at : DefK K mg "letter_at" (topS 17) ["board", "cell"]
  d_near : DefK K mg "near" (topS 18) ["board", "cell", "ways"]
  d_beside : DefK K mg "beside" (topS 19) ["board", "cell", "ways"]
  d_turned : DefK K mg "turned" (topS 20) ["board"]
  d_mirrored : DefK K mg "mirrored" (topS 21) ["board"]
  d_letters : DefK K mg "letters" (topS 22) ["board"]
  d_need_both : DefK K mg "need_both" (topS 24) ["board", "ways"]
  d_spread : DefK K mg "spread" (topS 25) ["board", "cell", "ways"]
  d_patch_of : DefK K mg "patch_of" (topS 26) ["board", "cell", "ways"]
  d_parted : DefK K mg "parted" (topS 27) ["board", "ways"]
  d_patches : DefK K mg "patches" (topS 28) ["board", "ways"]
  d_how_many : DefK K mg "how_many" (topS 29) ["board", "ways"]
  d_places : DefK K mg "places" (topS 30) ["some"]
  d_numbered : DefK K mg "numbered" (topS 31) ["board", "ways"]
  d_law_cell : DefK K mg "_law_cell" (topS 33) ["_law_script", "_law_k"]
  d_law_drawn : DefK K mg "_law_drawn" (topS 34) ["_law_script", "_law_k", "_law_many"]
  d_law_board : DefK K mg "_law_board" (topS 35) ["_law_script", "_law_at", "_law_most"]
  d_law_cells : DefK K mg "_law_cells" (topS 36) ["_law_board_here"]
  d_law_beside : DefK K mg "_law_beside" (topS 37) ["_law_board_here", "_law_cell_here", "_law_ways"]
  d_law_all : DefK K mg "_law_all" (topS 38) ["_law_rows"]
  d_law : DefK K mg "law" (topS 39) ["_law_script"]
noncomputable def g_is_number : Rho → R Out := (gRet (fAndV (f1 (pIsi "int") (fO 0)) (fAndV (fNotV (f1 (pIsi "bool") (fO 0))) (fChain cLe cLe (fO 1) (fO 0) (fO 2)))))
noncomputable def F_is_number : List W → R W := fnSem 3 g_is_number
noncomputable def g_is_board : Rho → R Out := (gSeq (gIf (fOr (fNot (fT (f1 (pIsi "tuple") (fO 0)))) (fNot (fT (fChain cLe cLe (fC (wI 1)) (fCal pLen (aCons (fO 0) aNil)) (fC c_MOST))))) (gRet (fC (.dat (.bool false)))) gNil)
  (gSeq (gKill [1] (gFor (iVal (fV 0)) (nG 1) (gThenKill [1] (gSeq (gIf (fOr (fNot (fT (f1 (pIsi "str") (fO 1)))) (fOr (fNot (fT (fChain cLe cLe (fC (wI 1)) (fCal pLen (aCons (fO 1) aNil)) (fC c_MOST)))) (fT (f2 (pEq true) (fCal pLen (aCons (fO 1) aNil)) (fCal pLen (aCons (f2 pGet (fO 0) (fC (wI 0))) aNil)))))) (gRet (fC (.dat (.bool false)))) gNil)
  (gIf (fNot (fT (fCal pAll (aCons (fOt (nLc (iVal (fV 1)) [2] (nG 2) cYes (f2 (pInW false) (fO 2) (fC c_LETTERS)))) aNil)))) (gRet (fC (.dat (.bool false)))) gNil)))))
  (gRet (fC (.dat (.bool true))))))
noncomputable def F_is_board : List W → R W := fnSem 3 g_is_board
noncomputable def g_near : Rho → R Out := (gSeq (gAsg (tupG 2 (consG (nG 3) (consG (nG 4) nilG))) (fV 1))
  (gSeq (gOwn 5 (nLst aNil))
  (gSeq (gKill [6] (gFor (iVal (fIf (fT (f2 (pEq false) (fO 2) (fC (wI 8)))) (fC c_STEPS8) (fC c_STEPS4))) (nG 6) (gThenKill [6] (gIf (fAnd (fT (fChain cLe cLt (fC (wI 0)) (f2 pAdd (fO 3) (f2 pGet (fO 6) (fC (wI 0)))) (fCal pLen (aCons (fO 0) aNil)))) (fT (fChain cLe cLt (fC (wI 0)) (f2 pAdd (fO 4) (f2 pGet (fO 6) (fC (wI 1)))) (fCal pLen (aCons (f2 pGet (fO 0) (fC (wI 0))) aNil))))) (gApp 5 (fTup (aCons (f2 pAdd (fO 3) (f2 pGet (fO 6) (fC (wI 0)))) (aCons (f2 pAdd (fO 4) (f2 pGet (fO 6) (fC (wI 1)))) aNil)))) gNil))))
  (gFrz 5 (gRet (fV 5))))))
noncomputable def F_near : List W → R W := fnSem 7 g_near
noncomputable def g_places : Rho → R Out := (gSeq (gOwn 1 nDT)
  (gSeq (gKill [2, 3, 4] (gFor (iL enum1 (aCons (fV 0) aNil)) (tupG 2 (consG (nG 2) (consG (nG 3) nilG))) (gThenKill [2, 3, 4] (gKill [4] (gFor (iVal (fV 3)) (nG 4) (gThenKill [4] (gPut 1 (fV 4) (fV 2))))))))
  (gFrz 1 (gRet (fV 1)))))
noncomputable def F_places : List W → R W := fnSem 5 g_places
noncomputable def g_law_cell : Rho → R Out := (gSeq (gIf (fT (f2 (pEq false) (fO 0) (fOt (nLst aNil)))) (gRet (f2 pMul (fC (wI 7)) (fO 1))) gNil)
  (gRet (f2 pAdd (f2 pGet (fO 0) (f2 pMod (fO 1) (fCal pLen (aCons (fO 0) aNil)))) (f2 pMul (fC (wI 6553)) (f2 pDiv (fO 1) (fCal pLen (aCons (fO 0) aNil)))))))
noncomputable def F_law_cell : List W → R W := fnSem 2 g_law_cell
noncomputable def g_law_cells : Rho → R Out := (gSeq (gSet 1 (fOt (nLst aNil)))
  (gSeq (gKill [2] (gFor (iL rng1 (aCons (fCal pLen (aCons (fO 0) aNil)) aNil)) (nG 2) (gThenKill [2] (gSet 1 (f2 pAdd (fO 1) (fOt (nLc (iL rng1 (aCons (fCal pLen (aCons (f2 pGet (fO 0) (fC (wI 0))) aNil)) aNil)) [3] (nG 3) cYes (fTup (aCons (fV 2) (aCons (fV 3) aNil))))))))))
  (gRet (fV 1))))
noncomputable def F_law_cells : List W → R W := fnSem 4 g_law_cells
noncomputable def g_law_beside : Rho → R Out := (gSeq (gOwn 3 (nLst aNil))
  (gSeq (gKill [4, 5, 6, 7, 8] (gFor (iVal (fTup (aCons (f1 pNeg (fC (wI 1))) (aCons (fC (wI 0)) (aCons (fC (wI 1)) aNil))))) (nG 4) (gThenKill [4, 5, 6, 7, 8] (gKill [5, 6, 7, 8] (gFor (iVal (fTup (aCons (f1 pNeg (fC (wI 1))) (aCons (fC (wI 0)) (aCons (fC (wI 1)) aNil))))) (nG 5) (gThenKill [5, 6, 7, 8] (gSeq (gSet 6 (f2 pAdd (f2 pGet (fO 1) (fC (wI 0))) (fO 4)))
  (gSeq (gSet 7 (f2 pAdd (f2 pGet (fO 1) (fC (wI 1))) (fO 5)))
  (gSeq (gSet 8 (fAndV (fChain cLe cLt (fC (wI 0)) (fO 6) (fCal pLen (aCons (fO 0) aNil))) (fChain cLe cLt (fC (wI 0)) (fO 7) (fCal pLen (aCons (f2 pGet (fO 0) (fC (wI 0))) aNil)))))
  (gIf (fAnd (fT (fV 8)) (fAnd (fT (f2 (pEq true) (fTup (aCons (fV 4) (aCons (fV 5) aNil))) (fTup (aCons (fC (wI 0)) (aCons (fC (wI 0)) aNil))))) (fOr (fT (f2 (pEq false) (fO 2) (fC (wI 8)))) (fT (f2 (pEq false) (f2 pMul (fO 4) (fO 5)) (fC (wI 0))))))) (gApp 3 (fTup (aCons (fV 6) (aCons (fV 7) aNil)))) gNil))))))))))
  (gFrz 3 (gRet (fV 3)))))
noncomputable def F_law_beside : List W → R W := fnSem 9 g_law_beside
noncomputable def g_law_all : Rho → R Out := (gSeq (gSet 1 (fOt (nLst aNil)))
  (gSeq (gKill [2] (gFor (iVal (fV 0)) (nG 2) (gThenKill [2] (gSet 1 (f2 pAdd (fO 1) (fO 2))))))
  (gRet (fV 1))))
noncomputable def F_law_all : List W → R W := fnSem 3 g_law_all
noncomputable def g_need_board : Rho → R Out := (gIf (fNot (fT (fCal F_is_board (aCons (fV 0) aNil)))) (gEx "NoBoard") gNil)
noncomputable def F_need_board : List W → R W := fnSem 1 g_need_board
noncomputable def g_need_ways : Rho → R Out := (gIf (fOr (fNot (fT (fCal F_is_number (aCons (fV 0) (aCons (fC (wI 4)) (aCons (fC (wI 8)) aNil)))))) (fT (f2 (pInW true) (fO 0) (fTup (aCons (fC (wI 4)) (aCons (fC (wI 8)) aNil)))))) (gEx "NoWays") gNil)
noncomputable def F_need_ways : List W → R W := fnSem 1 g_need_ways
noncomputable def g_is_cell : Rho → R Out := (gSeq (gIf (fOr (fNot (fT (f1 (pIsi "tuple") (fO 1)))) (fOr (fT (f2 (pEq true) (fCal pLen (aCons (fO 1) aNil)) (fC (wI 2)))) (fNot (fT (fCal F_is_number (aCons (f2 pGet (fO 1) (fC (wI 0))) (aCons (fC (wI 0)) (aCons (f2 pSub (fCal pLen (aCons (fO 0) aNil)) (fC (wI 1))) aNil)))))))) (gRet (fC (.dat (.bool false)))) gNil)
  (gRet (fCal F_is_number (aCons (f2 pGet (fO 1) (fC (wI 1))) (aCons (fC (wI 0)) (aCons (f2 pSub (fCal pLen (aCons (f2 pGet (fO 0) (fC (wI 0))) aNil)) (fC (wI 1))) aNil))))))
noncomputable def F_is_cell : List W → R W := fnSem 2 g_is_cell
noncomputable def g_spread : Rho → R Out := (gSeq (gOwn 3 (nDisp1T (fV 1) (fC (.dat .none))))
  (gSeq (gSet 4 (fOt (nLst (aCons (fV 1) aNil))))
  (gSeq (gKill [5, 6, 7] (gWhile (fT (f2 (pEq true) (fO 4) (fOt (nLst aNil)))) (gThenKill [5, 6, 7] (gSeq (gOwn 5 (nLst aNil))
  (gSeq (gKill [6, 7] (gFor (iVal (fV 4)) (nG 6) (gThenKill [6, 7] (gKill [7] (gFor (iVal (fCal F_near (aCons (fV 0) (aCons (fV 6) (aCons (fV 2) aNil))))) (nG 7) (gThenKill [7] (gIf (fAnd (fT (f2 (pInW true) (fO 7) (fO 3))) (fT (f2 (pEq false) (f2 pGet (f2 pGet (fO 0) (f2 pGet (fO 7) (fC (wI 0)))) (f2 pGet (fO 7) (fC (wI 1)))) (f2 pGet (f2 pGet (fO 0) (f2 pGet (fO 1) (fC (wI 0)))) (f2 pGet (fO 1) (fC (wI 1))))))) (gSeq (gPut 3 (fV 7) (fV 6))
  (gApp 5 (fV 7))) gNil)))))))
  (gFrz 5 (gSet 4 (fV 5))))))))
  (gFrz 3 (gRet (fV 3))))))
noncomputable def F_spread : List W → R W := fnSem 8 g_spread
noncomputable def g_law_drawn : Rho → R Out := (gSeq (gSet 3 (f2 pMod (f2 pAdd (f2 pMul (f2 pMod (fCal F_law_cell (aCons (fV 0) (aCons (fV 1) aNil))) (fC (wI 2147483563))) (fC (wI 69069))) (f2 pMul (fC (wI 104723)) (f2 pAdd (fO 1) (fC (wI 1))))) (fC (wI 2147483563))))
  (gSeq (gSet 3 (f2 pMod (f2 pAdd (f2 pMul (fO 3) (fO 3)) (f2 pDiv (fO 3) (fC (wI 3)))) (fC (wI 2147483399))))
  (gRet (f2 pMod (f2 pDiv (f2 pMod (f2 pAdd (f2 pMul (fO 3) (fO 3)) (f2 pDiv (fO 3) (fC (wI 7)))) (fC (wI 2147483647))) (fC (wI 11))) (fO 2)))))
noncomputable def F_law_drawn : List W → R W := fnSem 4 g_law_drawn
noncomputable def g_need_cell : Rho → R Out := (gIf (fNot (fT (fCal F_is_cell (aCons (fV 0) (aCons (fV 1) aNil))))) (gEx "NoCell") gNil)
noncomputable def F_need_cell : List W → R W := fnSem 2 g_need_cell
noncomputable def g_cells : Rho → R Out := (gSeq (gDo (fCal F_need_board (aCons (fV 0) aNil)))
  (gSeq (gOwn 1 (nLst aNil))
  (gSeq (gKill [2] (gFor (iL rng1 (aCons (fCal pLen (aCons (fO 0) aNil)) aNil)) (nG 2) (gThenKill [2] (gExt 1 (fOt (nLc (iL rng1 (aCons (fCal pLen (aCons (f2 pGet (fO 0) (fC (wI 0))) aNil)) aNil)) [3] (nG 3) cYes (fTup (aCons (fV 2) (aCons (fV 3) aNil)))))))))
  (gFrz 1 (gRet (fV 1))))))
noncomputable def F_cells : List W → R W := fnSem 4 g_cells
noncomputable def g_turned : Rho → R Out := (gSeq (gDo (fCal F_need_board (aCons (fV 0) aNil)))
  (gRet (fCal pTuple (aCons (fOt (nLc (iL rng1 (aCons (fCal pLen (aCons (f2 pGet (fO 0) (fC (wI 0))) aNil)) aNil)) [1] (nG 1) cYes (fS1 pJoin (fC (wS [])) (fOt (nLc (iVal (f1 pRevA (fO 0))) [2] (nG 2) cYes (f2 pGet (fO 2) (fO 1))))))) aNil))))
noncomputable def F_turned : List W → R W := fnSem 3 g_turned
noncomputable def g_mirrored : Rho → R Out := (gSeq (gDo (fCal F_need_board (aCons (fV 0) aNil)))
  (gRet (fCal pTuple (aCons (fOt (nLc (iVal (fV 0)) [1] (nG 1) cYes (f1 pRevA (fO 1)))) aNil))))
noncomputable def F_mirrored : List W → R W := fnSem 2 g_mirrored
noncomputable def g_letters : Rho → R Out := (gSeq (gDo (fCal F_need_board (aCons (fV 0) aNil)))
  (gSeq (gSet 1 (fS1 pJoin (fC (wS [])) (fO 0)))
  (gRet (fOt (nLc (iVal (f1 pSrtTxt (fV 1))) [2] (nG 2) cYes (fTup (aCons (fV 2) (aCons (fS1 pCount (fO 1) (fO 2)) aNil))))))))
noncomputable def F_letters : List W → R W := fnSem 3 g_letters
noncomputable def g_need_both : Rho → R Out := (gSeq (gDo (fCal F_need_board (aCons (fV 0) aNil)))
  (gDo (fCal F_need_ways (aCons (fV 1) aNil))))
noncomputable def F_need_both : List W → R W := fnSem 2 g_need_both
noncomputable def g_law_board : Rho → R Out := (gSeq (gSet 3 (f2 pAdd (fC (wI 1)) (fCal F_law_drawn (aCons (fV 0) (aCons (fV 1) (aCons (fV 2) aNil))))))
  (gSeq (gSet 4 (f2 pAdd (fC (wI 1)) (fCal F_law_drawn (aCons (fV 0) (aCons (f2 pAdd (fO 1) (fC (wI 1))) (aCons (fV 2) aNil))))))
  (gSeq (gSet 5 (f2 pGet (fOt (nLst (aCons (fC (wS [97, 98])) (aCons (fC (wS [97, 98, 99])) (aCons (fC (wS [97, 97, 98])) (aCons (fC (wS [102, 97])) aNil)))))) (fCal F_law_drawn (aCons (fV 0) (aCons (f2 pAdd (fO 1) (fC (wI 2))) (aCons (fC (wI 4)) aNil))))))
  (gSeq (gSet 6 (fTup aNil))
  (gSeq (gKill [7, 8] (gFor (iL rng1 (aCons (fO 3) aNil)) (nG 7) (gThenKill [7, 8] (gSeq (gThenFrz 8 (gOwn 8 (nLc (iL rng1 (aCons (fO 4) aNil)) [9] (nG 9) cYes (f2 pGet (fO 5) (fCal F_law_drawn (aCons (fV 0) (aCons (f2 pAdd (f2 pAdd (f2 pAdd (fO 1) (fC (wI 3))) (f2 pMul (fC (wI 7)) (fO 7))) (fO 9)) (aCons (fCal pLen (aCons (fO 5) aNil)) aNil))))))))
  (gSet 6 (f2 pAdd (fO 6) (fTup (aCons (fS1 pJoin (fC (wS [])) (fO 8)) aNil))))))))
  (gRet (fV 6)))))))
noncomputable def F_law_board : List W → R W := fnSem 10 g_law_board
noncomputable def g_letter_at : Rho → R Out := (gSeq (gDo (fCal F_need_board (aCons (fV 0) aNil)))
  (gSeq (gDo (fCal F_need_cell (aCons (fV 0) (aCons (fV 1) aNil))))
  (gRet (f2 pGet (f2 pGet (fO 0) (f2 pGet (fO 1) (fC (wI 0)))) (f2 pGet (fO 1) (fC (wI 1)))))))
noncomputable def F_letter_at : List W → R W := fnSem 2 g_letter_at
noncomputable def g_beside : Rho → R Out := (gSeq (gDo (fCal F_need_board (aCons (fV 0) aNil)))
  (gSeq (gDo (fCal F_need_cell (aCons (fV 0) (aCons (fV 1) aNil))))
  (gSeq (gDo (fCal F_need_ways (aCons (fV 2) aNil)))
  (gRet (fCal F_near (aCons (fV 0) (aCons (fV 1) (aCons (fV 2) aNil))))))))
noncomputable def F_beside : List W → R W := fnSem 3 g_beside
noncomputable def g_patch_of : Rho → R Out := (gSeq (gDo (fCal F_need_board (aCons (fV 0) aNil)))
  (gSeq (gDo (fCal F_need_cell (aCons (fV 0) (aCons (fV 1) aNil))))
  (gSeq (gDo (fCal F_need_ways (aCons (fV 2) aNil)))
  (gRet (fCal pSorted (aCons (fCal F_spread (aCons (fV 0) (aCons (fV 1) (aCons (fV 2) aNil)))) aNil))))))
noncomputable def F_patch_of : List W → R W := fnSem 3 g_patch_of
noncomputable def g_parted : Rho → R Out := (gSeq (gOwn 2 nDT)
  (gSeq (gOwn 3 (nLst aNil))
  (gSeq (gKill [4, 5, 6] (gFor (iVal (fCal F_cells (aCons (fV 0) aNil))) (nG 4) (gThenKill [4, 5, 6] (gIf (fT (f2 (pInW true) (fO 4) (fO 2))) (gSeq (gSet 5 (fCal pSorted (aCons (fCal F_spread (aCons (fV 0) (aCons (fV 4) (aCons (fV 1) aNil)))) aNil)))
  (gSeq (gApp 3 (fV 5))
  (gKill [6] (gFor (iVal (fV 5)) (nG 6) (gThenKill [6] (gPut 2 (fV 6) (fC (.dat (.bool true))))))))) gNil))))
  (gFrz 3 (gRet (fV 3))))))
noncomputable def F_parted : List W → R W := fnSem 7 g_parted
noncomputable def g_patches : Rho → R Out := (gSeq (gDo (fCal F_need_both (aCons (fV 0) (aCons (fV 1) aNil))))
  (gRet (fCal F_parted (aCons (fV 0) (aCons (fV 1) aNil)))))
noncomputable def F_patches : List W → R W := fnSem 2 g_patches
noncomputable def g_how_many : Rho → R Out := (gRet (fCal pLen (aCons (fCal F_patches (aCons (fV 0) (aCons (fV 1) aNil))) aNil)))
noncomputable def F_how_many : List W → R W := fnSem 2 g_how_many
noncomputable def g_numbered : Rho → R Out := (gSeq (gSet 2 (fCal F_places (aCons (fCal F_patches (aCons (fV 0) (aCons (fV 1) aNil))) aNil)))
  (gRet (fOt (nLc (iL rng1 (aCons (fCal pLen (aCons (fO 0) aNil)) aNil)) [3] (nG 3) cYes (fOt (nLc (iL rng1 (aCons (fCal pLen (aCons (f2 pGet (fO 0) (fC (wI 0))) aNil)) aNil)) [4] (nG 4) cYes (f2 pGet (fO 2) (fTup (aCons (fV 3) (aCons (fV 4) aNil))))))))))
noncomputable def F_numbered : List W → R W := fnSem 5 g_numbered
noncomputable def g_law : Rho → R Out := (gSeq (gSet 1 (fCal F_law_board (aCons (fV 0) (aCons (fC (wI 0)) (aCons (fC (wI 5)) aNil)))))
  (gSeq (gSet 2 (fCal F_cells (aCons (fV 1) aNil)))
  (gSeq (gKill [3, 4, 5, 6, 7, 8, 9, 10, 11, 12, 13, 14, 15] (gFor (iVal (fTup (aCons (fC (wI 4)) (aCons (fC (wI 8)) aNil)))) (nG 3) (gThenKill [3, 4, 5, 6, 7, 8, 9, 10, 11, 12, 13, 14, 15] (gSeq (gSet 4 (fCal F_patches (aCons (fV 1) (aCons (fV 3) aNil))))
  (gSeq (gIf (fOr (fT (f2 (pEq true) (fCal pSorted (aCons (fCal F_law_all (aCons (fV 4) aNil)) aNil)) (fO 2))) (fT (f2 (pEq true) (fCal pLen (aCons (fO 4) aNil)) (fCal F_how_many (aCons (fV 1) (aCons (fV 3) aNil)))))) (gRet (fC (.dat (.bool false)))) gNil)
  (gSeq (gSet 5 (fCal F_numbered (aCons (fV 1) (aCons (fV 3) aNil))))
  (gSeq (gKill [6, 7, 8, 9, 10] (gFor (iL enum1 (aCons (fV 4) aNil)) (tupG 2 (consG (nG 6) (consG (nG 7) nilG))) (gThenKill [6, 7, 8, 9, 10] (gSeq (gIf (fOr (fT (f2 (pEq true) (fO 7) (f1 pSrtSet (fV 7)))) (fT (f2 (pEq true) (f1 pLenSetS (fOt (nLc (iVal (fV 7)) [8] (nG 8) cYes (fCal F_letter_at (aCons (fV 1) (aCons (fV 8) aNil)))))) (fC (wI 1))))) (gRet (fC (.dat (.bool false)))) gNil)
  (gKill [8, 9, 10] (gFor (iVal (fV 7)) (nG 8) (gThenKill [8, 9, 10] (gSeq (gSet 9 (fCal F_letter_at (aCons (fV 1) (aCons (fV 8) aNil))))
  (gSeq (gThenFrz 10 (gOwn 10 (nLc (iVal (fCal F_beside (aCons (fV 1) (aCons (fV 8) (aCons (fV 3) aNil))))) [16] (nG 16) (fT (f2 (pEq false) (fCal F_letter_at (aCons (fV 1) (aCons (fV 16) aNil))) (fO 9))) (fV 16))))
  (gSeq (gIf (fT (f2 (pEq true) (fOt (nLc (iVal (fV 10)) [16] (nG 16) (fT (f2 (pInW true) (fO 16) (fO 7))) (fV 16))) (fOt (nLst aNil)))) (gRet (fC (.dat (.bool false)))) gNil)
  (gIf (fT (f2 (pEq true) (f2 pGet (f2 pGet (fO 5) (f2 pGet (fO 8) (fC (wI 0)))) (f2 pGet (fO 8) (fC (wI 1)))) (fO 6))) (gRet (fC (.dat (.bool false)))) gNil)))))))))))
  (gSeq (gThenFrz 11 (gOwn 11 (nLc (iVal (fV 4)) [7] (nG 7) cYes (f2 pGet (fO 7) (fC (wI 0))))))
  (gSeq (gIf (fOr (fT (f2 (pEq true) (fO 11) (fCal pSorted (aCons (fO 11) aNil)))) (fT (f2 (pEq true) (fCal F_patch_of (aCons (fV 1) (aCons (f2 pGet (f2 pGet (fO 4) (f1 pNeg (fC (wI 1)))) (f1 pNeg (fC (wI 1)))) (aCons (fV 3) aNil)))) (f2 pGet (fO 4) (f1 pNeg (fC (wI 1))))))) (gRet (fC (.dat (.bool false)))) gNil)
  (gSeq (gSet 12 (fCal pSorted (aCons (fOt (nLc (iVal (fV 4)) [7] (nG 7) cYes (fCal pLen (aCons (fO 7) aNil)))) aNil)))
  (gSeq (gKill [13] (gFor (iVal (fTup (aCons (fCal F_turned (aCons (fV 1) aNil)) (aCons (fCal F_mirrored (aCons (fV 1) aNil)) (aCons (f1 pRevA (fO 1)) aNil))))) (nG 13) (gThenKill [13] (gIf (fT (f2 (pEq true) (fCal pSorted (aCons (fOt (nLc (iVal (fCal F_patches (aCons (fV 13) (aCons (fV 3) aNil)))) [7] (nG 7) cYes (fCal pLen (aCons (fO 7) aNil)))) aNil)) (fO 12))) (gRet (fC (.dat (.bool false)))) gNil))))
  (gSeq (gSet 14 (fOt (nDictZ (aCons (fOt (nLc (iVal (fCal F_letters (aCons (fV 1) aNil))) [17, 18] (tupG 2 (consG (nG 17) (consG (nG 18) nilG))) cYes (fV 17))) (aCons (fC (wS [102, 101, 100, 99, 98, 97])) aNil)))))
  (gSeq (gSet 15 (fCal pTuple (aCons (fOt (nLc (iVal (fV 1)) [7] (nG 7) cYes (fS1 pJoin (fC (wS [])) (fOt (nLc (iVal (fV 7)) [19] (nG 19) cYes (f2 pGet (fO 14) (fO 19))))))) aNil)))
  (gIf (fT (f2 (pEq true) (fCal F_patches (aCons (fV 15) (aCons (fV 3) aNil))) (fO 4))) (gRet (fC (.dat (.bool false)))) gNil))))))))))))))
  (gRet (f2 cLe (fCal F_how_many (aCons (fV 1) (aCons (fC (wI 8)) aNil))) (fCal F_how_many (aCons (fV 1) (aCons (fC (wI 4)) aNil))))))))
noncomputable def F_law : List W → R W := fnSem 20 g_law
section
variable {P : Program} {w : World} {K : PySem.W.Frag} {mg : Str → Option Value} {base : Heap}
abbrev s_is_number : Stmt := topS 10
theorem sc_is_number : FnScope ["thing", "low", "high"] ["thing", "low", "high"] (defScope s_is_number) := ⟨rfl, rfl, rfl, by decide +kernel, rfl, by decide +kernel, by decide +kernel⟩
theorem is_number_fn (T : Txt K mg) : Fn P w K mg base 1 "is_number" 3 F_is_number := by
  obtain ⟨f, fd, F, gx, hb⟩ := T.d_is_number.ex
  exact Fn.of (k := 0) F sc_is_number gx hb fun cdv A outer s H E hr => by
    have hu := hr.units65
    have nd := sc_is_number.nd
    have tk := L2N.takes_of (X := cxOf (L2N.CX P w) P w K mg base ["thing", "low", "high"] "is_number" (defScope s_is_number) f cdv A outer s H E) rfl rfl rfl rfl
    have pz := passes_of (X := cxOf (L2N.CX P w) P w K mg base ["thing", "low", "high"] "is_number" (defScope s_is_number) f cdv A outer s H E) rfl
    exact (show VSs _ _ (defBody s_is_number) g_is_number from
      (vss_one (vs_ret (ve_and (ve_isi "int" (by decide) T.n_isinstance T.n_int (by decide +kernel) (vb_var 0)) (ve_and (ve_not (ve_isi "bool" (by decide) T.n_isinstance T.n_bool (by decide +kernel) (vb_var 0))) (ve_one (ve_chain op_cLe nx_pCmp op_cLe nx_pCmp (vb_var 1) (vb_var 0) (vb_var 2))))))))
abbrev s_is_board : Stmt := topS 11
theorem sc_is_board : FnScope ["thing", "row", "sign"] ["thing"] (defScope s_is_board) := ⟨rfl, rfl, rfl, by decide +kernel, rfl, by decide +kernel, by decide +kernel⟩
theorem is_board_fn (T : Txt K mg) : Fn P w K mg base 1 "is_board" 1 F_is_board := by
  obtain ⟨f, fd, F, gx, hb⟩ := T.d_is_board.ex
  exact Fn.of (k := 0) F sc_is_board gx hb fun cdv A outer s H E hr => by
    have hu := hr.units65
    have nd := sc_is_board.nd
    have tk := L2N.takes_of (X := cxOf (L2N.CX P w) P w K mg base ["thing", "row", "sign"] "is_board" (defScope s_is_board) f cdv A outer s H E) rfl rfl rfl rfl
    have pz := passes_of (X := cxOf (L2N.CX P w) P w K mg base ["thing", "row", "sign"] "is_board" (defScope s_is_board) f cdv A outer s H E) rfl
    exact (show VSs _ _ (defBody s_is_board) g_is_board from
      (vss_cons (vs_if (VW.t (vw_or (vt_not (vt_val (ve_isi "tuple" (by decide) T.n_isinstance T.n_tuple (by decide +kernel) (vb_var 0)))) (vw_or1 (vt_not (vt_chain op_cLe nx_pCmp op_cLe nx_pCmp (VE.b ve_int) (VE.b (ve_callB cal_len nx_pLen T.n_len PySem.boot_len (vab_cons (vb_var 0) vab_nil))) (VE.b (ve_gl T.c_MOST))))))) (vss_one (vs_ret ve_bl)) vss_nil)
      (vss_cons (vs_kill [1] (vs_for pz rfl (vi_val (ve_var 0)) (vg_name 1 nd) (vss_thenKill [1] (vss_cons (vs_if (VW.t (vw_or (vt_not (vt_val (ve_isi "str" (by decide) T.n_isinstance T.n_str (by decide +kernel) (vb_var 1)))) (vw_or (vt_not (vt_chain op_cLe nx_pCmp op_cLe nx_pCmp (VE.b ve_int) (VE.b (ve_callB cal_len nx_pLen T.n_len PySem.boot_len (vab_cons (vb_var 1) vab_nil))) (VE.b (ve_gl T.c_MOST)))) (vw_or1 (vt_cmp (op_pNe hr.units) nx_pEq (VE.b (ve_callB cal_len nx_pLen T.n_len PySem.boot_len (vab_cons (vb_var 1) vab_nil))) (VE.b (ve_callB cal_len nx_pLen T.n_len PySem.boot_len (vab_cons (VE.b (ve_get hu (vb_var 0) (VE.b ve_int))) vab_nil))) (nomark _)))))) (vss_one (vs_ret ve_bl)) vss_nil)
      (vss_one (vs_if (vt_not (vt_val (ve_callB (cal_all rfl) nx_pAll T.n_all (by decide +kernel) (vab_cons (VE.b (VN.e (vn_lc (own := [("sign", 2)]) rfl nd (vi_val (ve_var 1)) (blkOk_by (by change blkC ["thing", "row", "sign"] (defScope s_is_board) _ _ = true; decide +kernel)) (by decide) (fun _ _ _ _ _ => (vg_name 2 nd)) (fun _ _ _ _ _ => vc_nil) (fun _ _ _ _ _ => (ve_in hu (vb_var 2) (VE.b (ve_gl T.c_LETTERS))))))) vab_nil)))) (vss_one (vs_ret ve_bl)) vss_nil))))))
      (vss_one (vs_ret ve_bl)))))
abbrev s_near : Stmt := topS 18
theorem sc_near : FnScope ["board", "cell", "ways", "row", "column", "found", "there"] ["board", "cell", "ways"] (defScope s_near) := ⟨rfl, rfl, rfl, by decide +kernel, rfl, by decide +kernel, by decide +kernel⟩
theorem near_fn (T : Txt K mg) : Fn P w K mg base 1 "near" 3 F_near := by
  obtain ⟨f, fd, F, gx, hb⟩ := T.d_near.ex
  exact Fn.of (k := 0) F sc_near gx hb fun cdv A outer s H E hr => by
    have hu := hr.units65
    have nd := sc_near.nd
    have tk := L2N.takes_of (X := cxOf (L2N.CX P w) P w K mg base ["board", "cell", "ways", "row", "column", "found", "there"] "near" (defScope s_near) f cdv A outer s H E) rfl rfl rfl rfl
    have pz := passes_of (X := cxOf (L2N.CX P w) P w K mg base ["board", "cell", "ways", "row", "column", "found", "there"] "near" (defScope s_near) f cdv A outer s H E) rfl
    exact (show VSs _ _ (defBody s_near) g_near from
      (vss_cons (vs_asg (ve_var 1) (vg_tup rfl (vgs_cons (vg_name 3 nd) (vgs_cons (vg_name 4 nd) vgs_nil))))
      (vss_cons (vs_own 5 (vn_lst va_nil) nd)
      (vss_cons (vs_kill [6] (vs_for pz rfl (vi_val (ve_if (vt_cmp (op_pEq hr.units) nx_pEq (vb_var 2) (VE.b ve_int) (nomark _)) (ve_gl T.c_STEPS8) (ve_gl T.c_STEPS4))) (vg_name 6 nd) (vss_thenKill [6] (vss_one (vs_if (VW.t (vw_and (vt_chain op_cLe nx_pCmp op_cLt nx_pCmp (VE.b ve_int) (VE.b (ve_bin op_pAdd nx_pAdd (vb_var 3) (VE.b (ve_get hu (vb_var 6) (VE.b ve_int))))) (VE.b (ve_callB cal_len nx_pLen T.n_len PySem.boot_len (vab_cons (vb_var 0) vab_nil)))) (vw_and1 (vt_chain op_cLe nx_pCmp op_cLt nx_pCmp (VE.b ve_int) (VE.b (ve_bin op_pAdd nx_pAdd (vb_var 4) (VE.b (ve_get hu (vb_var 6) (VE.b ve_int))))) (VE.b (ve_callB cal_len nx_pLen T.n_len PySem.boot_len (vab_cons (VE.b (ve_get hu (vb_var 0) (VE.b ve_int))) vab_nil))))))) (vss_one (vs_append 5 (ve_tup (va_cons (ve_bin op_pAdd nx_pAdd (vb_var 3) (VE.b (ve_get hu (vb_var 6) (VE.b ve_int)))) (va_cons (ve_bin op_pAdd nx_pAdd (vb_var 4) (VE.b (ve_get hu (vb_var 6) (VE.b ve_int)))) va_nil))))) vss_nil)))))
      (vss_one (vs_frz 5 (vs_ret (ve_var 5))))))))
abbrev s_places : Stmt := topS 30
theorem sc_places : FnScope ["some", "found", "number", "patch", "cell"] ["some"] (defScope s_places) := ⟨rfl, rfl, rfl, by decide +kernel, rfl, by decide +kernel, by decide +kernel⟩
theorem places_fn (T : Txt K mg) : Fn P w K mg base 1 "places" 1 F_places := by
  obtain ⟨f, fd, F, gx, hb⟩ := T.d_places.ex
  exact Fn.of (k := 0) F sc_places gx hb fun cdv A outer s H E hr => by
    have hu := hr.units65
    have nd := sc_places.nd
    have tk := L2N.takes_of (X := cxOf (L2N.CX P w) P w K mg base ["some", "found", "number", "patch", "cell"] "places" (defScope s_places) f cdv A outer s H E) rfl rfl rfl rfl
    have pz := passes_of (X := cxOf (L2N.CX P w) P w K mg base ["some", "found", "number", "patch", "cell"] "places" (defScope s_places) f cdv A outer s H E) rfl
    exact (show VSs _ _ (defBody s_places) g_places from
      (vss_cons (vs_own 1 vn_dT nd)
      (vss_cons (vs_kill [2, 3, 4] (vs_for pz rfl (vi_enum T.n_enumerate (va_cons (ve_var 0) va_nil)) (vg_tup rfl (vgs_cons (vg_name 2 nd) (vgs_cons (vg_name 3 nd) vgs_nil))) (vss_thenKill [2, 3, 4] (vss_one (vs_kill [4] (vs_for pz rfl (vi_val (ve_var 3)) (vg_name 4 nd) (vss_thenKill [4] (vss_one (vs_put 1 hu (ve_var 4) (ve_var 2))))))))))
      (vss_one (vs_frz 1 (vs_ret (ve_var 1)))))))
abbrev s_law_cell : Stmt := topS 33
theorem sc_law_cell : FnScope ["_law_script", "_law_k"] ["_law_script", "_law_k"] (defScope s_law_cell) := ⟨rfl, rfl, rfl, by decide +kernel, rfl, by decide +kernel, by decide +kernel⟩
theorem law_cell_fn (T : Txt K mg) : Fn P w K mg base 1 "_law_cell" 2 F_law_cell := by
  obtain ⟨f, fd, F, gx, hb⟩ := T.d_law_cell.ex
  exact Fn.of (k := 0) F sc_law_cell gx hb fun cdv A outer s H E hr => by
    have hu := hr.units65
    have nd := sc_law_cell.nd
    have tk := L2N.takes_of (X := cxOf (L2N.CX P w) P w K mg base ["_law_script", "_law_k"] "_law_cell" (defScope s_law_cell) f cdv A outer s H E) rfl rfl rfl rfl
    have pz := passes_of (X := cxOf (L2N.CX P w) P w K mg base ["_law_script", "_law_k"] "_law_cell" (defScope s_law_cell) f cdv A outer s H E) rfl
    exact (show VSs _ _ (defBody s_law_cell) g_law_cell from
      (vss_cons (vs_if (vt_cmp (op_pEq hr.units) nx_pEq (vb_var 0) (VE.b (ve_lst va_nil)) (nomark _)) (vss_one (vs_ret (ve_bin op_pMul nx_pMul (VE.b ve_int) (vb_var 1)))) vss_nil)
      (vss_one (vs_ret (ve_bin op_pAdd nx_pAdd (VE.b (ve_get hu (vb_var 0) (VE.b (ve_bin op_pMod nx_pMod (vb_var 1) (VE.b (ve_callB cal_len nx_pLen T.n_len PySem.boot_len (vab_cons (vb_var 0) vab_nil))))))) (VE.b (ve_bin op_pMul nx_pMul (VE.b ve_int) (VE.b (ve_bin op_pDiv nx_pDiv (vb_var 1) (VE.b (ve_callB cal_len nx_pLen T.n_len PySem.boot_len (vab_cons (vb_var 0) vab_nil))))))))))))
abbrev s_law_cells : Stmt := topS 36
theorem sc_law_cells : FnScope ["_law_board_here", "_law_found", "_law_row", "_law_column"] ["_law_board_here"] (defScope s_law_cells) := ⟨rfl, rfl, rfl, by decide +kernel, rfl, by decide +kernel, by decide +kernel⟩
theorem law_cells_fn (T : Txt K mg) : Fn P w K mg base 1 "_law_cells" 1 F_law_cells := by
  obtain ⟨f, fd, F, gx, hb⟩ := T.d_law_cells.ex
  exact Fn.of (k := 0) F sc_law_cells gx hb fun cdv A outer s H E hr => by
    have hu := hr.units65
    have nd := sc_law_cells.nd
    have tk := L2N.takes_of (X := cxOf (L2N.CX P w) P w K mg base ["_law_board_here", "_law_found", "_law_row", "_law_column"] "_law_cells" (defScope s_law_cells) f cdv A outer s H E) rfl rfl rfl rfl
    have pz := passes_of (X := cxOf (L2N.CX P w) P w K mg base ["_law_board_here", "_law_found", "_law_row", "_law_column"] "_law_cells" (defScope s_law_cells) f cdv A outer s H E) rfl
    exact (show VSs _ _ (defBody s_law_cells) g_law_cells from
      (vss_cons (vs_set 1 (ve_lst va_nil) nd)
      (vss_cons (vs_kill [2] (vs_for pz rfl (vi_rng1 T.n_range (vab_cons (VE.b (ve_callB cal_len nx_pLen T.n_len PySem.boot_len (vab_cons (vb_var 0) vab_nil))) vab_nil)) (vg_name 2 nd) (vss_thenKill [2] (vss_one (vs_set 1 (ve_bin op_pAdd nx_pAdd (vb_var 1) (VE.b (VN.e (vn_lc (own := [("_law_column", 3)]) rfl nd (vi_rng1 T.n_range (vab_cons (VE.b (ve_callB cal_len nx_pLen T.n_len PySem.boot_len (vab_cons (VE.b (ve_get hu (vb_var 0) (VE.b ve_int))) vab_nil))) vab_nil)) (blkOk_by (by change blkC ["_law_board_here", "_law_found", "_law_row", "_law_column"] (defScope s_law_cells) _ _ = true; decide +kernel)) (by decide) (fun _ _ _ _ _ => (vg_name 3 nd)) (fun _ _ _ _ _ => vc_nil) (fun _ _ _ _ _ => (ve_tup (va_cons (ve_var 2) (va_cons (ve_var 3) va_nil)))))))) nd)))))
      (vss_one (vs_ret (ve_var 1))))))
abbrev s_law_beside : Stmt := topS 37
theorem sc_law_beside : FnScope ["_law_board_here", "_law_cell_here", "_law_ways", "_law_found", "_law_down", "_law_right", "_law_row", "_law_column", "_law_inside"] ["_law_board_here", "_law_cell_here", "_law_ways"] (defScope s_law_beside) := ⟨rfl, rfl, rfl, by decide +kernel, rfl, by decide +kernel, by decide +kernel⟩
theorem law_beside_fn (T : Txt K mg) : Fn P w K mg base 1 "_law_beside" 3 F_law_beside := by
  obtain ⟨f, fd, F, gx, hb⟩ := T.d_law_beside.ex
  exact Fn.of (k := 0) F sc_law_beside gx hb fun cdv A outer s H E hr => by
    have hu := hr.units65
    have nd := sc_law_beside.nd
    have tk := L2N.takes_of (X := cxOf (L2N.CX P w) P w K mg base ["_law_board_here", "_law_cell_here", "_law_ways", "_law_found", "_law_down", "_law_right", "_law_row", "_law_column", "_law_inside"] "_law_beside" (defScope s_law_beside) f cdv A outer s H E) rfl rfl rfl rfl
    have pz := passes_of (X := cxOf (L2N.CX P w) P w K mg base ["_law_board_here", "_law_cell_here", "_law_ways", "_law_found", "_law_down", "_law_right", "_law_row", "_law_column", "_law_inside"] "_law_beside" (defScope s_law_beside) f cdv A outer s H E) rfl
    exact (show VSs _ _ (defBody s_law_beside) g_law_beside from
      (vss_cons (vs_own 3 (vn_lst va_nil) nd)
      (vss_cons (vs_kill [4, 5, 6, 7, 8] (vs_for pz rfl (vi_val (ve_tup (va_cons (ve_neg ve_int) (va_cons ve_int (va_cons ve_int va_nil))))) (vg_name 4 nd) (vss_thenKill [4, 5, 6, 7, 8] (vss_one (vs_kill [5, 6, 7, 8] (vs_for pz rfl (vi_val (ve_tup (va_cons (ve_neg ve_int) (va_cons ve_int (va_cons ve_int va_nil))))) (vg_name 5 nd) (vss_thenKill [5, 6, 7, 8] (vss_cons (vs_set 6 (ve_bin op_pAdd nx_pAdd (VE.b (ve_get hu (vb_var 1) (VE.b ve_int))) (vb_var 4)) nd)
      (vss_cons (vs_set 7 (ve_bin op_pAdd nx_pAdd (VE.b (ve_get hu (vb_var 1) (VE.b ve_int))) (vb_var 5)) nd)
      (vss_cons (vs_set 8 (ve_and (ve_chain op_cLe nx_pCmp op_cLt nx_pCmp (VE.b ve_int) (vb_var 6) (VE.b (ve_callB cal_len nx_pLen T.n_len PySem.boot_len (vab_cons (vb_var 0) vab_nil)))) (ve_one (ve_chain op_cLe nx_pCmp op_cLt nx_pCmp (VE.b ve_int) (vb_var 7) (VE.b (ve_callB cal_len nx_pLen T.n_len PySem.boot_len (vab_cons (VE.b (ve_get hu (vb_var 0) (VE.b ve_int))) vab_nil)))))) nd)
      (vss_one (vs_if (VW.t (vw_and (vt_val (ve_var 8)) (vw_and (vt_cmp (op_pNe hr.units) nx_pEq (VE.b (ve_tup (va_cons (ve_var 4) (va_cons (ve_var 5) va_nil)))) (VE.b (ve_tup (va_cons ve_int (va_cons ve_int va_nil)))) (nomark _)) (vw_and1 (VW.t (vw_or (vt_cmp (op_pEq hr.units) nx_pEq (vb_var 2) (VE.b ve_int) (nomark _)) (vw_or1 (vt_cmp (op_pEq hr.units) nx_pEq (VE.b (ve_bin op_pMul nx_pMul (vb_var 4) (vb_var 5))) (VE.b ve_int) (nomark _))))))))) (vss_one (vs_append 3 (ve_tup (va_cons (ve_var 6) (va_cons (ve_var 7) va_nil))))) vss_nil))))))))))))
      (vss_one (vs_frz 3 (vs_ret (ve_var 3)))))))
abbrev s_law_all : Stmt := topS 38
theorem sc_law_all : FnScope ["_law_rows", "_law_found", "_law_row"] ["_law_rows"] (defScope s_law_all) := ⟨rfl, rfl, rfl, by decide +kernel, rfl, by decide +kernel, by decide +kernel⟩
theorem law_all_fn (T : Txt K mg) : Fn P w K mg base 1 "_law_all" 1 F_law_all := by
  obtain ⟨f, fd, F, gx, hb⟩ := T.d_law_all.ex
  exact Fn.of (k := 0) F sc_law_all gx hb fun cdv A outer s H E hr => by
    have hu := hr.units65
    have nd := sc_law_all.nd
    have tk := L2N.takes_of (X := cxOf (L2N.CX P w) P w K mg base ["_law_rows", "_law_found", "_law_row"] "_law_all" (defScope s_law_all) f cdv A outer s H E) rfl rfl rfl rfl
    have pz := passes_of (X := cxOf (L2N.CX P w) P w K mg base ["_law_rows", "_law_found", "_law_row"] "_law_all" (defScope s_law_all) f cdv A outer s H E) rfl
    exact (show VSs _ _ (defBody s_law_all) g_law_all from
      (vss_cons (vs_set 1 (ve_lst va_nil) nd)
      (vss_cons (vs_kill [2] (vs_for pz rfl (vi_val (ve_var 0)) (vg_name 2 nd) (vss_thenKill [2] (vss_one (vs_set 1 (ve_bin op_pAdd nx_pAdd (vb_var 1) (vb_var 2)) nd)))))
      (vss_one (vs_ret (ve_var 1))))))
abbrev s_need_board : Stmt := topS 12
theorem sc_need_board : FnScope ["board"] ["board"] (defScope s_need_board) := ⟨rfl, rfl, rfl, by decide +kernel, rfl, by decide +kernel, by decide +kernel⟩
theorem need_board_fn (T : Txt K mg) : Fn P w K mg base 2 "need_board" 1 F_need_board := by
  obtain ⟨f, fd, F, gx, hb⟩ := T.d_need_board.ex
  exact Fn.of (k := 1) F sc_need_board gx hb fun cdv A outer s H E hr => by
    have hu := hr.units65
    have nd := sc_need_board.nd
    have tk := L2N.takes_of (X := cxOf (L2N.CX P w) P w K mg base ["board"] "need_board" (defScope s_need_board) f cdv A outer s H E) rfl rfl rfl rfl
    have pz := passes_of (X := cxOf (L2N.CX P w) P w K mg base ["board"] "need_board" (defScope s_need_board) f cdv A outer s H E) rfl
    exact (show VSs _ _ (defBody s_need_board) g_need_board from
      (vss_one (vs_if (vt_not (vt_val (ve_call (is_board_fn T) tk hr (by decide) rfl (va_cons (ve_var 0) va_nil) (aCons_len aNil_len)))) (vss_one (vs_raise rfl tk (T.x_NoBoard.at))) vss_nil)))
abbrev s_need_ways : Stmt := topS 13
theorem sc_need_ways : FnScope ["ways"] ["ways"] (defScope s_need_ways) := ⟨rfl, rfl, rfl, by decide +kernel, rfl, by decide +kernel, by decide +kernel⟩
theorem need_ways_fn (T : Txt K mg) : Fn P w K mg base 2 "need_ways" 1 F_need_ways := by
  obtain ⟨f, fd, F, gx, hb⟩ := T.d_need_ways.ex
  exact Fn.of (k := 1) F sc_need_ways gx hb fun cdv A outer s H E hr => by
    have hu := hr.units65
    have nd := sc_need_ways.nd
    have tk := L2N.takes_of (X := cxOf (L2N.CX P w) P w K mg base ["ways"] "need_ways" (defScope s_need_ways) f cdv A outer s H E) rfl rfl rfl rfl
    have pz := passes_of (X := cxOf (L2N.CX P w) P w K mg base ["ways"] "need_ways" (defScope s_need_ways) f cdv A outer s H E) rfl
    exact (show VSs _ _ (defBody s_need_ways) g_need_ways from
      (vss_one (vs_if (VW.t (vw_or (vt_not (vt_val (ve_call (is_number_fn T) tk hr (by decide) rfl (va_cons (ve_var 0) (va_cons ve_int (va_cons ve_int va_nil))) (aCons_len (aCons_len (aCons_len aNil_len)))))) (vw_or1 (vt_nin hu (vb_var 0) (VE.b (ve_tup (va_cons ve_int (va_cons ve_int va_nil)))))))) (vss_one (vs_raise rfl tk (T.x_NoWays.at))) vss_nil)))
abbrev s_is_cell : Stmt := topS 14
theorem sc_is_cell : FnScope ["board", "thing"] ["board", "thing"] (defScope s_is_cell) := ⟨rfl, rfl, rfl, by decide +kernel, rfl, by decide +kernel, by decide +kernel⟩
theorem is_cell_fn (T : Txt K mg) : Fn P w K mg base 2 "is_cell" 2 F_is_cell := by
  obtain ⟨f, fd, F, gx, hb⟩ := T.d_is_cell.ex
  exact Fn.of (k := 1) F sc_is_cell gx hb fun cdv A outer s H E hr => by
    have hu := hr.units65
    have nd := sc_is_cell.nd
    have tk := L2N.takes_of (X := cxOf (L2N.CX P w) P w K mg base ["board", "thing"] "is_cell" (defScope s_is_cell) f cdv A outer s H E) rfl rfl rfl rfl
    have pz := passes_of (X := cxOf (L2N.CX P w) P w K mg base ["board", "thing"] "is_cell" (defScope s_is_cell) f cdv A outer s H E) rfl
    exact (show VSs _ _ (defBody s_is_cell) g_is_cell from
      (vss_cons (vs_if (VW.t (vw_or (vt_not (vt_val (ve_isi "tuple" (by decide) T.n_isinstance T.n_tuple (by decide +kernel) (vb_var 1)))) (vw_or (vt_cmp (op_pNe hr.units) nx_pEq (VE.b (ve_callB cal_len nx_pLen T.n_len PySem.boot_len (vab_cons (vb_var 1) vab_nil))) (VE.b ve_int) (nomark _)) (vw_or1 (vt_not (vt_val (ve_call (is_number_fn T) tk hr (by decide) rfl (va_cons (ve_get hu (vb_var 1) (VE.b ve_int)) (va_cons ve_int (va_cons (ve_bin op_pSub nx_pSub (VE.b (ve_callB cal_len nx_pLen T.n_len PySem.boot_len (vab_cons (vb_var 0) vab_nil))) (VE.b ve_int)) va_nil))) (aCons_len (aCons_len (aCons_len aNil_len)))))))))) (vss_one (vs_ret ve_bl)) vss_nil)
      (vss_one (vs_ret (ve_call (is_number_fn T) tk hr (by decide) rfl (va_cons (ve_get hu (vb_var 1) (VE.b ve_int)) (va_cons ve_int (va_cons (ve_bin op_pSub nx_pSub (VE.b (ve_callB cal_len nx_pLen T.n_len PySem.boot_len (vab_cons (VE.b (ve_get hu (vb_var 0) (VE.b ve_int))) vab_nil))) (VE.b ve_int)) va_nil))) (aCons_len (aCons_len (aCons_len aNil_len))))))))
abbrev s_spread : Stmt := topS 25
theorem sc_spread : FnScope ["board", "cell", "ways", "found", "row", "longer", "here", "there"] ["board", "cell", "ways"] (defScope s_spread) := ⟨rfl, rfl, rfl, by decide +kernel, rfl, by decide +kernel, by decide +kernel⟩
theorem spread_fn (T : Txt K mg) : Fn P w K mg base 2 "spread" 3 F_spread := by
  obtain ⟨f, fd, F, gx, hb⟩ := T.d_spread.ex
  exact Fn.of (k := 1) F sc_spread gx hb fun cdv A outer s H E hr => by
    have hu := hr.units65
    have nd := sc_spread.nd
    have tk := L2N.takes_of (X := cxOf (L2N.CX P w) P w K mg base ["board", "cell", "ways", "found", "row", "longer", "here", "there"] "spread" (defScope s_spread) f cdv A outer s H E) rfl rfl rfl rfl
    have pz := passes_of (X := cxOf (L2N.CX P w) P w K mg base ["board", "cell", "ways", "found", "row", "longer", "here", "there"] "spread" (defScope s_spread) f cdv A outer s H E) rfl
    exact (show VSs _ _ (defBody s_spread) g_spread from
      (vss_cons (vs_own 3 (vn_disp1T hu (ve_var 1) ve_non) nd)
      (vss_cons (vs_set 4 (ve_lst (va_cons (ve_var 1) va_nil)) nd)
      (vss_cons (vs_kill [5, 6, 7] (vs_while pz (vt_cmp (op_pNe hr.units) nx_pEq (vb_var 4) (VE.b (ve_lst va_nil)) (nomark _)) (vss_thenKill [5, 6, 7] (vss_cons (vs_own 5 (vn_lst va_nil) nd)
      (vss_cons (vs_kill [6, 7] (vs_for pz rfl (vi_val (ve_var 4)) (vg_name 6 nd) (vss_thenKill [6, 7] (vss_one (vs_kill [7] (vs_for pz rfl (vi_val (ve_call (near_fn T) tk hr (by decide) rfl (va_cons (ve_var 0) (va_cons (ve_var 6) (va_cons (ve_var 2) va_nil))) (aCons_len (aCons_len (aCons_len aNil_len))))) (vg_name 7 nd) (vss_thenKill [7] (vss_one (vs_if (VW.t (vw_and (vt_nin hu (vb_var 7) (vb_var 3)) (vw_and1 (vt_cmp (op_pEq hr.units) nx_pEq (VE.b (ve_get hu (VE.b (ve_get hu (vb_var 0) (VE.b (ve_get hu (vb_var 7) (VE.b ve_int))))) (VE.b (ve_get hu (vb_var 7) (VE.b ve_int))))) (VE.b (ve_get hu (VE.b (ve_get hu (vb_var 0) (VE.b (ve_get hu (vb_var 1) (VE.b ve_int))))) (VE.b (ve_get hu (vb_var 1) (VE.b ve_int))))) (nomark _))))) (vss_cons (vs_put 3 hu (ve_var 7) (ve_var 6))
      (vss_one (vs_append 5 (ve_var 7)))) vss_nil)))))))))
      (vss_one (vs_frz 5 (vs_set 4 (ve_var 5) nd))))))))
      (vss_one (vs_frz 3 (vs_ret (ve_var 3))))))))
abbrev s_law_drawn : Stmt := topS 34
theorem sc_law_drawn : FnScope ["_law_script", "_law_k", "_law_many", "_law_cell_here"] ["_law_script", "_law_k", "_law_many"] (defScope s_law_drawn) := ⟨rfl, rfl, rfl, by decide +kernel, rfl, by decide +kernel, by decide +kernel⟩
theorem law_drawn_fn (T : Txt K mg) : Fn P w K mg base 2 "_law_drawn" 3 F_law_drawn := by
  obtain ⟨f, fd, F, gx, hb⟩ := T.d_law_drawn.ex
  exact Fn.of (k := 1) F sc_law_drawn gx hb fun cdv A outer s H E hr => by
    have hu := hr.units65
    have nd := sc_law_drawn.nd
    have tk := L2N.takes_of (X := cxOf (L2N.CX P w) P w K mg base ["_law_script", "_law_k", "_law_many", "_law_cell_here"] "_law_drawn" (defScope s_law_drawn) f cdv A outer s H E) rfl rfl rfl rfl
    have pz := passes_of (X := cxOf (L2N.CX P w) P w K mg base ["_law_script", "_law_k", "_law_many", "_law_cell_here"] "_law_drawn" (defScope s_law_drawn) f cdv A outer s H E) rfl
    exact (show VSs _ _ (defBody s_law_drawn) g_law_drawn from
      (vss_cons (vs_set 3 (ve_bin op_pMod nx_pMod (VE.b (ve_bin op_pAdd nx_pAdd (VE.b (ve_bin op_pMul nx_pMul (VE.b (ve_bin op_pMod nx_pMod (VE.b (ve_call (law_cell_fn T) tk hr (by decide) rfl (va_cons (ve_var 0) (va_cons (ve_var 1) va_nil)) (aCons_len (aCons_len aNil_len)))) (VE.b ve_int))) (VE.b ve_int))) (VE.b (ve_bin op_pMul nx_pMul (VE.b ve_int) (VE.b (ve_bin op_pAdd nx_pAdd (vb_var 1) (VE.b ve_int))))))) (VE.b ve_int)) nd)
      (vss_cons (vs_set 3 (ve_bin op_pMod nx_pMod (VE.b (ve_bin op_pAdd nx_pAdd (VE.b (ve_bin op_pMul nx_pMul (vb_var 3) (vb_var 3))) (VE.b (ve_bin op_pDiv nx_pDiv (vb_var 3) (VE.b ve_int))))) (VE.b ve_int)) nd)
      (vss_one (vs_ret (ve_bin op_pMod nx_pMod (VE.b (ve_bin op_pDiv nx_pDiv (VE.b (ve_bin op_pMod nx_pMod (VE.b (ve_bin op_pAdd nx_pAdd (VE.b (ve_bin op_pMul nx_pMul (vb_var 3) (vb_var 3))) (VE.b (ve_bin op_pDiv nx_pDiv (vb_var 3) (VE.b ve_int))))) (VE.b ve_int))) (VE.b ve_int))) (vb_var 2)))))))
abbrev s_need_cell : Stmt := topS 15
theorem sc_need_cell : FnScope ["board", "cell"] ["board", "cell"] (defScope s_need_cell) := ⟨rfl, rfl, rfl, by decide +kernel, rfl, by decide +kernel, by decide +kernel⟩
theorem need_cell_fn (T : Txt K mg) : Fn P w K mg base 3 "need_cell" 2 F_need_cell := by
  obtain ⟨f, fd, F, gx, hb⟩ := T.d_need_cell.ex
  exact Fn.of (k := 2) F sc_need_cell gx hb fun cdv A outer s H E hr => by
    have hu := hr.units65
    have nd := sc_need_cell.nd
    have tk := L2N.takes_of (X := cxOf (L2N.CX P w) P w K mg base ["board", "cell"] "need_cell" (defScope s_need_cell) f cdv A outer s H E) rfl rfl rfl rfl
    have pz := passes_of (X := cxOf (L2N.CX P w) P w K mg base ["board", "cell"] "need_cell" (defScope s_need_cell) f cdv A outer s H E) rfl
    exact (show VSs _ _ (defBody s_need_cell) g_need_cell from
      (vss_one (vs_if (vt_not (vt_val (ve_call (is_cell_fn T) tk hr (by decide) rfl (va_cons (ve_var 0) (va_cons (ve_var 1) va_nil)) (aCons_len (aCons_len aNil_len))))) (vss_one (vs_raise rfl tk (T.x_NoCell.at))) vss_nil)))
abbrev s_cells : Stmt := topS 16
theorem sc_cells : FnScope ["board", "found", "row", "column"] ["board"] (defScope s_cells) := ⟨rfl, rfl, rfl, by decide +kernel, rfl, by decide +kernel, by decide +kernel⟩
theorem cells_fn (T : Txt K mg) : Fn P w K mg base 3 "cells" 1 F_cells := by
  obtain ⟨f, fd, F, gx, hb⟩ := T.d_cells.ex
  exact Fn.of (k := 2) F sc_cells gx hb fun cdv A outer s H E hr => by
    have hu := hr.units65
    have nd := sc_cells.nd
    have tk := L2N.takes_of (X := cxOf (L2N.CX P w) P w K mg base ["board", "found", "row", "column"] "cells" (defScope s_cells) f cdv A outer s H E) rfl rfl rfl rfl
    have pz := passes_of (X := cxOf (L2N.CX P w) P w K mg base ["board", "found", "row", "column"] "cells" (defScope s_cells) f cdv A outer s H E) rfl
    exact (show VSs _ _ (defBody s_cells) g_cells from
      (vss_cons (vs_expr (ve_call (need_board_fn T) tk hr (by decide) rfl (va_cons (ve_var 0) va_nil) (aCons_len aNil_len)))
      (vss_cons (vs_own 1 (vn_lst va_nil) nd)
      (vss_cons (vs_kill [2] (vs_for pz rfl (vi_rng1 T.n_range (vab_cons (VE.b (ve_callB cal_len nx_pLen T.n_len PySem.boot_len (vab_cons (vb_var 0) vab_nil))) vab_nil)) (vg_name 2 nd) (vss_thenKill [2] (vss_one (vs_extend 1 (VN.e (vn_lc (own := [("column", 3)]) rfl nd (vi_rng1 T.n_range (vab_cons (VE.b (ve_callB cal_len nx_pLen T.n_len PySem.boot_len (vab_cons (VE.b (ve_get hu (vb_var 0) (VE.b ve_int))) vab_nil))) vab_nil)) (blkOk_by (by change blkC ["board", "found", "row", "column"] (defScope s_cells) _ _ = true; decide +kernel)) (by decide) (fun _ _ _ _ _ => (vg_name 3 nd)) (fun _ _ _ _ _ => vc_nil) (fun _ _ _ _ _ => (ve_tup (va_cons (ve_var 2) (va_cons (ve_var 3) va_nil)))))))))))
      (vss_one (vs_frz 1 (vs_ret (ve_var 1))))))))
abbrev s_turned : Stmt := topS 20
theorem sc_turned : FnScope ["board", "column", "row"] ["board"] (defScope s_turned) := ⟨rfl, rfl, rfl, by decide +kernel, rfl, by decide +kernel, by decide +kernel⟩
theorem turned_fn (T : Txt K mg) : Fn P w K mg base 3 "turned" 1 F_turned := by
  obtain ⟨f, fd, F, gx, hb⟩ := T.d_turned.ex
  exact Fn.of (k := 2) F sc_turned gx hb fun cdv A outer s H E hr => by
    have hu := hr.units65
    have nd := sc_turned.nd
    have tk := L2N.takes_of (X := cxOf (L2N.CX P w) P w K mg base ["board", "column", "row"] "turned" (defScope s_turned) f cdv A outer s H E) rfl rfl rfl rfl
    have pz := passes_of (X := cxOf (L2N.CX P w) P w K mg base ["board", "column", "row"] "turned" (defScope s_turned) f cdv A outer s H E) rfl
    exact (show VSs _ _ (defBody s_turned) g_turned from
      (vss_cons (vs_expr (ve_call (need_board_fn T) tk hr (by decide) rfl (va_cons (ve_var 0) va_nil) (aCons_len aNil_len)))
      (vss_one (vs_ret (ve_callTy cal_tuple nx_pTuple T.n_tuple (by decide +kernel) (vab_cons (VE.b (VN.e (vn_lc (own := [("column", 1)]) rfl nd (vi_rng1 T.n_range (vab_cons (VE.b (ve_callB cal_len nx_pLen T.n_len PySem.boot_len (vab_cons (VE.b (ve_get hu (vb_var 0) (VE.b ve_int))) vab_nil))) vab_nil)) (blkOk_by (by change blkC ["board", "column", "row"] (defScope s_turned) _ _ = true; decide +kernel)) (by decide) (fun _ _ _ _ _ => (vg_name 1 nd)) (fun _ _ _ _ _ => vc_nil) (fun _ _ _ _ _ => (ve_join (VE.b (ve_str [])) (VE.b (VN.e (vn_lc (own := [("row", 2)]) rfl nd (vi_val (ve_revA (vb_var 0))) (blkOk_by (by kernel_rfl)) (by decide) (fun _ _ _ _ _ => (vg_name 2 nd)) (fun _ _ _ _ _ => vc_nil) (fun _ _ _ _ _ => (ve_get hu (vb_var 2) (vb_var 1))))))))))) vab_nil))))))
abbrev s_mirrored : Stmt := topS 21
theorem sc_mirrored : FnScope ["board", "row"] ["board"] (defScope s_mirrored) := ⟨rfl, rfl, rfl, by decide +kernel, rfl, by decide +kernel, by decide +kernel⟩
theorem mirrored_fn (T : Txt K mg) : Fn P w K mg base 3 "mirrored" 1 F_mirrored := by
  obtain ⟨f, fd, F, gx, hb⟩ := T.d_mirrored.ex
  exact Fn.of (k := 2) F sc_mirrored gx hb fun cdv A outer s H E hr => by
    have hu := hr.units65
    have nd := sc_mirrored.nd
    have tk := L2N.takes_of (X := cxOf (L2N.CX P w) P w K mg base ["board", "row"] "mirrored" (defScope s_mirrored) f cdv A outer s H E) rfl rfl rfl rfl
    have pz := passes_of (X := cxOf (L2N.CX P w) P w K mg base ["board", "row"] "mirrored" (defScope s_mirrored) f cdv A outer s H E) rfl
    exact (show VSs _ _ (defBody s_mirrored) g_mirrored from
      (vss_cons (vs_expr (ve_call (need_board_fn T) tk hr (by decide) rfl (va_cons (ve_var 0) va_nil) (aCons_len aNil_len)))
      (vss_one (vs_ret (ve_callTy cal_tuple nx_pTuple T.n_tuple (by decide +kernel) (vab_cons (VE.b (VN.e (vn_lc (own := [("row", 1)]) rfl nd (vi_val (ve_var 0)) (blkOk_by (by change blkC ["board", "row"] (defScope s_mirrored) _ _ = true; decide +kernel)) (by decide) (fun _ _ _ _ _ => (vg_name 1 nd)) (fun _ _ _ _ _ => vc_nil) (fun _ _ _ _ _ => (ve_revA (vb_var 1)))))) vab_nil))))))
abbrev s_letters : Stmt := topS 22
theorem sc_letters : FnScope ["board", "whole", "letter"] ["board"] (defScope s_letters) := ⟨rfl, rfl, rfl, by decide +kernel, rfl, by decide +kernel, by decide +kernel⟩
theorem letters_fn (T : Txt K mg) : Fn P w K mg base 3 "letters" 1 F_letters := by
  obtain ⟨f, fd, F, gx, hb⟩ := T.d_letters.ex
  exact Fn.of (k := 2) F sc_letters gx hb fun cdv A outer s H E hr => by
    have hu := hr.units65
    have nd := sc_letters.nd
    have tk := L2N.takes_of (X := cxOf (L2N.CX P w) P w K mg base ["board", "whole", "letter"] "letters" (defScope s_letters) f cdv A outer s H E) rfl rfl rfl rfl
    have pz := passes_of (X := cxOf (L2N.CX P w) P w K mg base ["board", "whole", "letter"] "letters" (defScope s_letters) f cdv A outer s H E) rfl
    exact (show VSs _ _ (defBody s_letters) g_letters from
      (vss_cons (vs_expr (ve_call (need_board_fn T) tk hr (by decide) rfl (va_cons (ve_var 0) va_nil) (aCons_len aNil_len)))
      (vss_cons (vs_set 1 (ve_join (VE.b (ve_str [])) (vb_var 0)) nd)
      (vss_one (vs_ret (VN.e (vn_lc (own := [("letter", 2)]) rfl nd (vi_val (ve_srttxt rfl hu T.n_sorted T.n_set (ve_var 1))) (blkOk_by (by change blkC ["board", "whole", "letter"] (defScope s_letters) _ _ = true; decide +kernel)) (by decide) (fun _ _ _ _ _ => (vg_name 2 nd)) (fun _ _ _ _ _ => vc_nil) (fun _ _ _ _ _ => (ve_tup (va_cons (ve_var 2) (va_cons (ve_count (vb_var 1) (vb_var 2)) va_nil)))))))))))
abbrev s_need_both : Stmt := topS 24
theorem sc_need_both : FnScope ["board", "ways"] ["board", "ways"] (defScope s_need_both) := ⟨rfl, rfl, rfl, by decide +kernel, rfl, by decide +kernel, by decide +kernel⟩
theorem need_both_fn (T : Txt K mg) : Fn P w K mg base 3 "need_both" 2 F_need_both := by
  obtain ⟨f, fd, F, gx, hb⟩ := T.d_need_both.ex
  exact Fn.of (k := 2) F sc_need_both gx hb fun cdv A outer s H E hr => by
    have hu := hr.units65
    have nd := sc_need_both.nd
    have tk := L2N.takes_of (X := cxOf (L2N.CX P w) P w K mg base ["board", "ways"] "need_both" (defScope s_need_both) f cdv A outer s H E) rfl rfl rfl rfl
    have pz := passes_of (X := cxOf (L2N.CX P w) P w K mg base ["board", "ways"] "need_both" (defScope s_need_both) f cdv A outer s H E) rfl
    exact (show VSs _ _ (defBody s_need_both) g_need_both from
      (vss_cons (vs_expr (ve_call (need_board_fn T) tk hr (by decide) rfl (va_cons (ve_var 0) va_nil) (aCons_len aNil_len)))
      (vss_one (vs_expr (ve_call (need_ways_fn T) tk hr (by decide) rfl (va_cons (ve_var 1) va_nil) (aCons_len aNil_len))))))
abbrev s_law_board : Stmt := topS 35
theorem sc_law_board : FnScope ["_law_script", "_law_at", "_law_most", "_law_rows", "_law_wide", "_law_alphabet", "_law_found", "_law_row", "_law_signs", "_law_k"] ["_law_script", "_law_at", "_law_most"] (defScope s_law_board) := ⟨rfl, rfl, rfl, by decide +kernel, rfl, by decide +kernel, by decide +kernel⟩
theorem law_board_fn (T : Txt K mg) : Fn P w K mg base 3 "_law_board" 3 F_law_board := by
  obtain ⟨f, fd, F, gx, hb⟩ := T.d_law_board.ex
  exact Fn.of (k := 2) F sc_law_board gx hb fun cdv A outer s H E hr => by
    have hu := hr.units65
    have nd := sc_law_board.nd
    have tk := L2N.takes_of (X := cxOf (L2N.CX P w) P w K mg base ["_law_script", "_law_at", "_law_most", "_law_rows", "_law_wide", "_law_alphabet", "_law_found", "_law_row", "_law_signs", "_law_k"] "_law_board" (defScope s_law_board) f cdv A outer s H E) rfl rfl rfl rfl
    have pz := passes_of (X := cxOf (L2N.CX P w) P w K mg base ["_law_script", "_law_at", "_law_most", "_law_rows", "_law_wide", "_law_alphabet", "_law_found", "_law_row", "_law_signs", "_law_k"] "_law_board" (defScope s_law_board) f cdv A outer s H E) rfl
    exact (show VSs _ _ (defBody s_law_board) g_law_board from
      (vss_cons (vs_set 3 (ve_bin op_pAdd nx_pAdd (VE.b ve_int) (VE.b (ve_call (law_drawn_fn T) tk hr (by decide) rfl (va_cons (ve_var 0) (va_cons (ve_var 1) (va_cons (ve_var 2) va_nil))) (aCons_len (aCons_len (aCons_len aNil_len)))))) nd)
      (vss_cons (vs_set 4 (ve_bin op_pAdd nx_pAdd (VE.b ve_int) (VE.b (ve_call (law_drawn_fn T) tk hr (by decide) rfl (va_cons (ve_var 0) (va_cons (ve_bin op_pAdd nx_pAdd (vb_var 1) (VE.b ve_int)) (va_cons (ve_var 2) va_nil))) (aCons_len (aCons_len (aCons_len aNil_len)))))) nd)
      (vss_cons (vs_set 5 (ve_get hu (VE.b (ve_lst (va_cons (ve_str [97, 98]) (va_cons (ve_str [97, 98, 99]) (va_cons (ve_str [97, 97, 98]) (va_cons (ve_str [102, 97]) va_nil)))))) (VE.b (ve_call (law_drawn_fn T) tk hr (by decide) rfl (va_cons (ve_var 0) (va_cons (ve_bin op_pAdd nx_pAdd (vb_var 1) (VE.b ve_int)) (va_cons ve_int va_nil))) (aCons_len (aCons_len (aCons_len aNil_len)))))) nd)
      (vss_cons (vs_set 6 (ve_tup va_nil) nd)
      (vss_cons (vs_kill [7, 8] (vs_for pz rfl (vi_rng1 T.n_range (vab_cons (vb_var 3) vab_nil)) (vg_name 7 nd) (vss_thenKill [7, 8] (vss_cons (vs_thenFrz 8 (vs_setLc 8 (own := [("_law_k", 9)]) rfl nd (vi_rng1 T.n_range (vab_cons (vb_var 4) vab_nil)) (blkOk_by (by change blkC ["_law_script", "_law_at", "_law_most", "_law_rows", "_law_wide", "_law_alphabet", "_law_found", "_law_row", "_law_signs", "_law_k"] (defScope s_law_board) _ _ = true; decide +kernel)) (by decide) (fun _ _ _ _ _ => (vg_name 9 nd)) (fun _ _ _ _ _ => vc_nil) (fun _ _ _ _ _ => (ve_get hu (vb_var 5) (VE.b (ve_call (law_drawn_fn T) Vd.takes0 hr (by decide) rfl (va_cons (ve_var 0) (va_cons (ve_bin op_pAdd nx_pAdd (VE.b (ve_bin op_pAdd nx_pAdd (VE.b (ve_bin op_pAdd nx_pAdd (vb_var 1) (VE.b ve_int))) (VE.b (ve_bin op_pMul nx_pMul (VE.b ve_int) (vb_var 7))))) (vb_var 9)) (va_cons (ve_callB cal_len nx_pLen T.n_len PySem.boot_len (vab_cons (vb_var 5) vab_nil)) va_nil))) (aCons_len (aCons_len (aCons_len aNil_len)))))))))
      (vss_one (vs_set 6 (ve_bin op_pAdd nx_pAdd (vb_var 6) (VE.b (ve_tup (va_cons (ve_join (VE.b (ve_str [])) (vb_var 8)) va_nil)))) nd))))))
      (vss_one (vs_ret (ve_var 6)))))))))
abbrev s_letter_at : Stmt := topS 17
theorem sc_letter_at : FnScope ["board", "cell"] ["board", "cell"] (defScope s_letter_at) := ⟨rfl, rfl, rfl, by decide +kernel, rfl, by decide +kernel, by decide +kernel⟩
theorem letter_at_fn (T : Txt K mg) : Fn P w K mg base 4 "letter_at" 2 F_letter_at := by
  obtain ⟨f, fd, F, gx, hb⟩ := T.d_letter_at.ex
  exact Fn.of (k := 3) F sc_letter_at gx hb fun cdv A outer s H E hr => by
    have hu := hr.units65
    have nd := sc_letter_at.nd
    have tk := L2N.takes_of (X := cxOf (L2N.CX P w) P w K mg base ["board", "cell"] "letter_at" (defScope s_letter_at) f cdv A outer s H E) rfl rfl rfl rfl
    have pz := passes_of (X := cxOf (L2N.CX P w) P w K mg base ["board", "cell"] "letter_at" (defScope s_letter_at) f cdv A outer s H E) rfl
    exact (show VSs _ _ (defBody s_letter_at) g_letter_at from
      (vss_cons (vs_expr (ve_call (need_board_fn T) tk hr (by decide) rfl (va_cons (ve_var 0) va_nil) (aCons_len aNil_len)))
      (vss_cons (vs_expr (ve_call (need_cell_fn T) tk hr (by decide) rfl (va_cons (ve_var 0) (va_cons (ve_var 1) va_nil)) (aCons_len (aCons_len aNil_len))))
      (vss_one (vs_ret (ve_get hu (VE.b (ve_get hu (vb_var 0) (VE.b (ve_get hu (vb_var 1) (VE.b ve_int))))) (VE.b (ve_get hu (vb_var 1) (VE.b ve_int)))))))))
abbrev s_beside : Stmt := topS 19
theorem sc_beside : FnScope ["board", "cell", "ways"] ["board", "cell", "ways"] (defScope s_beside) := ⟨rfl, rfl, rfl, by decide +kernel, rfl, by decide +kernel, by decide +kernel⟩
theorem beside_fn (T : Txt K mg) : Fn P w K mg base 4 "beside" 3 F_beside := by
  obtain ⟨f, fd, F, gx, hb⟩ := T.d_beside.ex
  exact Fn.of (k := 3) F sc_beside gx hb fun cdv A outer s H E hr => by
    have hu := hr.units65
    have nd := sc_beside.nd
    have tk := L2N.takes_of (X := cxOf (L2N.CX P w) P w K mg base ["board", "cell", "ways"] "beside" (defScope s_beside) f cdv A outer s H E) rfl rfl rfl rfl
    have pz := passes_of (X := cxOf (L2N.CX P w) P w K mg base ["board", "cell", "ways"] "beside" (defScope s_beside) f cdv A outer s H E) rfl
    exact (show VSs _ _ (defBody s_beside) g_beside from
      (vss_cons (vs_expr (ve_call (need_board_fn T) tk hr (by decide) rfl (va_cons (ve_var 0) va_nil) (aCons_len aNil_len)))
      (vss_cons (vs_expr (ve_call (need_cell_fn T) tk hr (by decide) rfl (va_cons (ve_var 0) (va_cons (ve_var 1) va_nil)) (aCons_len (aCons_len aNil_len))))
      (vss_cons (vs_expr (ve_call (need_ways_fn T) tk hr (by decide) rfl (va_cons (ve_var 2) va_nil) (aCons_len aNil_len)))
      (vss_one (vs_ret (ve_call (near_fn T) tk hr (by decide) rfl (va_cons (ve_var 0) (va_cons (ve_var 1) (va_cons (ve_var 2) va_nil))) (aCons_len (aCons_len (aCons_len aNil_len))))))))))
abbrev s_patch_of : Stmt := topS 26
theorem sc_patch_of : FnScope ["board", "cell", "ways"] ["board", "cell", "ways"] (defScope s_patch_of) := ⟨rfl, rfl, rfl, by decide +kernel, rfl, by decide +kernel, by decide +kernel⟩
theorem patch_of_fn (T : Txt K mg) : Fn P w K mg base 4 "patch_of" 3 F_patch_of := by
  obtain ⟨f, fd, F, gx, hb⟩ := T.d_patch_of.ex
  exact Fn.of (k := 3) F sc_patch_of gx hb fun cdv A outer s H E hr => by
    have hu := hr.units65
    have nd := sc_patch_of.nd
    have tk := L2N.takes_of (X := cxOf (L2N.CX P w) P w K mg base ["board", "cell", "ways"] "patch_of" (defScope s_patch_of) f cdv A outer s H E) rfl rfl rfl rfl
    have pz := passes_of (X := cxOf (L2N.CX P w) P w K mg base ["board", "cell", "ways"] "patch_of" (defScope s_patch_of) f cdv A outer s H E) rfl
    exact (show VSs _ _ (defBody s_patch_of) g_patch_of from
      (vss_cons (vs_expr (ve_call (need_board_fn T) tk hr (by decide) rfl (va_cons (ve_var 0) va_nil) (aCons_len aNil_len)))
      (vss_cons (vs_expr (ve_call (need_cell_fn T) tk hr (by decide) rfl (va_cons (ve_var 0) (va_cons (ve_var 1) va_nil)) (aCons_len (aCons_len aNil_len))))
      (vss_cons (vs_expr (ve_call (need_ways_fn T) tk hr (by decide) rfl (va_cons (ve_var 2) va_nil) (aCons_len aNil_len)))
      (vss_one (vs_ret (ve_callB (cal_sorted rfl hr.units) nx_pSorted T.n_sorted (by decide +kernel) (vab_cons (VE.b (ve_call (spread_fn T) tk hr (by decide) rfl (va_cons (ve_var 0) (va_cons (ve_var 1) (va_cons (ve_var 2) va_nil))) (aCons_len (aCons_len (aCons_len aNil_len))))) vab_nil))))))))
abbrev s_parted : Stmt := topS 27
theorem sc_parted : FnScope ["board", "ways", "seen", "found", "cell", "some", "one"] ["board", "ways"] (defScope s_parted) := ⟨rfl, rfl, rfl, by decide +kernel, rfl, by decide +kernel, by decide +kernel⟩
theorem parted_fn (T : Txt K mg) : Fn P w K mg base 4 "parted" 2 F_parted := by
  obtain ⟨f, fd, F, gx, hb⟩ := T.d_parted.ex
  exact Fn.of (k := 3) F sc_parted gx hb fun cdv A outer s H E hr => by
    have hu := hr.units65
    have nd := sc_parted.nd
    have tk := L2N.takes_of (X := cxOf (L2N.CX P w) P w K mg base ["board", "ways", "seen", "found", "cell", "some", "one"] "parted" (defScope s_parted) f cdv A outer s H E) rfl rfl rfl rfl
    have pz := passes_of (X := cxOf (L2N.CX P w) P w K mg base ["board", "ways", "seen", "found", "cell", "some", "one"] "parted" (defScope s_parted) f cdv A outer s H E) rfl
    exact (show VSs _ _ (defBody s_parted) g_parted from
      (vss_cons (vs_own 2 vn_dT nd)
      (vss_cons (vs_own 3 (vn_lst va_nil) nd)
      (vss_cons (vs_kill [4, 5, 6] (vs_for pz rfl (vi_val (ve_call (cells_fn T) tk hr (by decide) rfl (va_cons (ve_var 0) va_nil) (aCons_len aNil_len))) (vg_name 4 nd) (vss_thenKill [4, 5, 6] (vss_one (vs_if (vt_nin hu (vb_var 4) (vb_var 2)) (vss_cons (vs_set 5 (ve_callB (cal_sorted rfl hr.units) nx_pSorted T.n_sorted (by decide +kernel) (vab_cons (VE.b (ve_call (spread_fn T) tk hr (by decide) rfl (va_cons (ve_var 0) (va_cons (ve_var 4) (va_cons (ve_var 1) va_nil))) (aCons_len (aCons_len (aCons_len aNil_len))))) vab_nil)) nd)
      (vss_cons (vs_append 3 (ve_var 5))
      (vss_one (vs_kill [6] (vs_for pz rfl (vi_val (ve_var 5)) (vg_name 6 nd) (vss_thenKill [6] (vss_one (vs_put 2 hu (ve_var 6) ve_bl)))))))) vss_nil)))))
      (vss_one (vs_frz 3 (vs_ret (ve_var 3))))))))
abbrev s_patches : Stmt := topS 28
theorem sc_patches : FnScope ["board", "ways"] ["board", "ways"] (defScope s_patches) := ⟨rfl, rfl, rfl, by decide +kernel, rfl, by decide +kernel, by decide +kernel⟩
theorem patches_fn (T : Txt K mg) : Fn P w K mg base 5 "patches" 2 F_patches := by
  obtain ⟨f, fd, F, gx, hb⟩ := T.d_patches.ex
  exact Fn.of (k := 4) F sc_patches gx hb fun cdv A outer s H E hr => by
    have hu := hr.units65
    have nd := sc_patches.nd
    have tk := L2N.takes_of (X := cxOf (L2N.CX P w) P w K mg base ["board", "ways"] "patches" (defScope s_patches) f cdv A outer s H E) rfl rfl rfl rfl
    have pz := passes_of (X := cxOf (L2N.CX P w) P w K mg base ["board", "ways"] "patches" (defScope s_patches) f cdv A outer s H E) rfl
    exact (show VSs _ _ (defBody s_patches) g_patches from
      (vss_cons (vs_expr (ve_call (need_both_fn T) tk hr (by decide) rfl (va_cons (ve_var 0) (va_cons (ve_var 1) va_nil)) (aCons_len (aCons_len aNil_len))))
      (vss_one (vs_ret (ve_call (parted_fn T) tk hr (by decide) rfl (va_cons (ve_var 0) (va_cons (ve_var 1) va_nil)) (aCons_len (aCons_len aNil_len)))))))
abbrev s_how_many : Stmt := topS 29
theorem sc_how_many : FnScope ["board", "ways"] ["board", "ways"] (defScope s_how_many) := ⟨rfl, rfl, rfl, by decide +kernel, rfl, by decide +kernel, by decide +kernel⟩
theorem how_many_fn (T : Txt K mg) : Fn P w K mg base 6 "how_many" 2 F_how_many := by
  obtain ⟨f, fd, F, gx, hb⟩ := T.d_how_many.ex
  exact Fn.of (k := 5) F sc_how_many gx hb fun cdv A outer s H E hr => by
    have hu := hr.units65
    have nd := sc_how_many.nd
    have tk := L2N.takes_of (X := cxOf (L2N.CX P w) P w K mg base ["board", "ways"] "how_many" (defScope s_how_many) f cdv A outer s H E) rfl rfl rfl rfl
    have pz := passes_of (X := cxOf (L2N.CX P w) P w K mg base ["board", "ways"] "how_many" (defScope s_how_many) f cdv A outer s H E) rfl
    exact (show VSs _ _ (defBody s_how_many) g_how_many from
      (vss_one (vs_ret (ve_callB cal_len nx_pLen T.n_len PySem.boot_len (vab_cons (VE.b (ve_call (patches_fn T) tk hr (by decide) rfl (va_cons (ve_var 0) (va_cons (ve_var 1) va_nil)) (aCons_len (aCons_len aNil_len)))) vab_nil)))))
abbrev s_numbered : Stmt := topS 31
theorem sc_numbered : FnScope ["board", "ways", "found", "row", "column"] ["board", "ways"] (defScope s_numbered) := ⟨rfl, rfl, rfl, by decide +kernel, rfl, by decide +kernel, by decide +kernel⟩
theorem numbered_fn (T : Txt K mg) : Fn P w K mg base 6 "numbered" 2 F_numbered := by
  obtain ⟨f, fd, F, gx, hb⟩ := T.d_numbered.ex
  exact Fn.of (k := 5) F sc_numbered gx hb fun cdv A outer s H E hr => by
    have hu := hr.units65
    have nd := sc_numbered.nd
    have tk := L2N.takes_of (X := cxOf (L2N.CX P w) P w K mg base ["board", "ways", "found", "row", "column"] "numbered" (defScope s_numbered) f cdv A outer s H E) rfl rfl rfl rfl
    have pz := passes_of (X := cxOf (L2N.CX P w) P w K mg base ["board", "ways", "found", "row", "column"] "numbered" (defScope s_numbered) f cdv A outer s H E) rfl
    exact (show VSs _ _ (defBody s_numbered) g_numbered from
      (vss_cons (vs_set 2 (ve_call (places_fn T) tk hr (by decide) rfl (va_cons (ve_call (patches_fn T) tk hr (by decide) rfl (va_cons (ve_var 0) (va_cons (ve_var 1) va_nil)) (aCons_len (aCons_len aNil_len))) va_nil) (aCons_len aNil_len)) nd)
      (vss_one (vs_ret (VN.e (vn_lc (own := [("row", 3)]) rfl nd (vi_rng1 T.n_range (vab_cons (VE.b (ve_callB cal_len nx_pLen T.n_len PySem.boot_len (vab_cons (vb_var 0) vab_nil))) vab_nil)) (blkOk_by (by change blkC ["board", "ways", "found", "row", "column"] (defScope s_numbered) _ _ = true; decide +kernel)) (by decide) (fun _ _ _ _ _ => (vg_name 3 nd)) (fun _ _ _ _ _ => vc_nil) (fun _ _ _ _ _ => (VN.e (vn_lc (own := [("column", 4)]) rfl nd (vi_rng1 T.n_range (vab_cons (VE.b (ve_callB cal_len nx_pLen T.n_len PySem.boot_len (vab_cons (VE.b (ve_get hu (vb_var 0) (VE.b ve_int))) vab_nil))) vab_nil)) (blkOk_by (by kernel_rfl)) (by decide) (fun _ _ _ _ _ => (vg_name 4 nd)) (fun _ _ _ _ _ => vc_nil) (fun _ _ _ _ _ => (ve_get hu (vb_var 2) (VE.b (ve_tup (va_cons (ve_var 3) (va_cons (ve_var 4) va_nil)))))))))))))))
abbrev s_law : Stmt := topS 39
theorem sc_law : FnScope ["_law_script", "_law_board_here", "_law_whole", "_law_ways", "_law_rows", "_law_told", "_law_number", "_law_row", "_law_cell_here", "_law_own", "_law_like", "_law_firsts", "_law_sizes", "_law_other", "_law_names", "_law_renamed", "_law_there", "_law_letter", "_law_many", "_law_sign"] ["_law_script"] (defScope s_law) := ⟨rfl, rfl, rfl, by decide +kernel, rfl, by decide +kernel, by decide +kernel⟩
theorem law_fn (T : Txt K mg) : FnP P w K mg base 7 "law" ["_law_script"] F_law := by
  obtain ⟨f, fd, F, gx, hb⟩ := T.d_law.ex
  exact Fn.ofP (k := 6) F sc_law gx hb fun cdv A outer s H E hr => by
    have hu := hr.units65
    have nd := sc_law.nd
    have tk := L2N.takes_of (X := cxOf (L2N.CX P w) P w K mg base ["_law_script", "_law_board_here", "_law_whole", "_law_ways", "_law_rows", "_law_told", "_law_number", "_law_row", "_law_cell_here", "_law_own", "_law_like", "_law_firsts", "_law_sizes", "_law_other", "_law_names", "_law_renamed", "_law_there", "_law_letter", "_law_many", "_law_sign"] "law" (defScope s_law) f cdv A outer s H E) rfl rfl rfl rfl
    have pz := passes_of (X := cxOf (L2N.CX P w) P w K mg base ["_law_script", "_law_board_here", "_law_whole", "_law_ways", "_law_rows", "_law_told", "_law_number", "_law_row", "_law_cell_here", "_law_own", "_law_like", "_law_firsts", "_law_sizes", "_law_other", "_law_names", "_law_renamed", "_law_there", "_law_letter", "_law_many", "_law_sign"] "law" (defScope s_law) f cdv A outer s H E) rfl
    exact (show VSs _ _ (defBody s_law) g_law from
      (vss_cons (vs_set 1 (ve_call (law_board_fn T) tk hr (by decide) rfl (va_cons (ve_var 0) (va_cons ve_int (va_cons ve_int va_nil))) (aCons_len (aCons_len (aCons_len aNil_len)))) nd)
      (vss_cons (vs_set 2 (ve_call (cells_fn T) tk hr (by decide) rfl (va_cons (ve_var 1) va_nil) (aCons_len aNil_len)) nd)
      (vss_cons (vs_kill [3, 4, 5, 6, 7, 8, 9, 10, 11, 12, 13, 14, 15] (vs_for pz rfl (vi_val (ve_tup (va_cons ve_int (va_cons ve_int va_nil)))) (vg_name 3 nd) (vss_thenKill [3, 4, 5, 6, 7, 8, 9, 10, 11, 12, 13, 14, 15] (vss_cons (vs_set 4 (ve_call (patches_fn T) tk hr (by decide) rfl (va_cons (ve_var 1) (va_cons (ve_var 3) va_nil)) (aCons_len (aCons_len aNil_len))) nd)
      (vss_cons (vs_if (VW.t (vw_or (vt_cmp (op_pNe hr.units) nx_pEq (VE.b (ve_callB (cal_sorted rfl hr.units) nx_pSorted T.n_sorted (by decide +kernel) (vab_cons (VE.b (ve_call (law_all_fn T) tk hr (by decide) rfl (va_cons (ve_var 4) va_nil) (aCons_len aNil_len))) vab_nil))) (vb_var 2) (nomark _)) (vw_or1 (vt_cmp (op_pNe hr.units) nx_pEq (VE.b (ve_callB cal_len nx_pLen T.n_len PySem.boot_len (vab_cons (vb_var 4) vab_nil))) (VE.b (ve_call (how_many_fn T) tk hr (by decide) rfl (va_cons (ve_var 1) (va_cons (ve_var 3) va_nil)) (aCons_len (aCons_len aNil_len)))) (nomark _))))) (vss_one (vs_ret ve_bl)) vss_nil)
      (vss_cons (vs_set 5 (ve_call (numbered_fn T) tk hr (by decide) rfl (va_cons (ve_var 1) (va_cons (ve_var 3) va_nil)) (aCons_len (aCons_len aNil_len))) nd)
      (vss_cons (vs_kill [6, 7, 8, 9, 10] (vs_for pz rfl (vi_enum T.n_enumerate (va_cons (ve_var 4) va_nil)) (vg_tup rfl (vgs_cons (vg_name 6 nd) (vgs_cons (vg_name 7 nd) vgs_nil))) (vss_thenKill [6, 7, 8, 9, 10] (vss_cons (vs_if (VW.t (vw_or (vt_cmp (op_pNe hr.units) nx_pEq (vb_var 7) (VE.b (ve_srtset rfl hu T.n_sorted T.n_set (ve_var 7))) (nomark _)) (vw_or1 (vt_cmp (op_pNe hr.units) nx_pEq (VE.b (ve_lensetS rfl hu T.n_len T.n_set (VN.e (vn_lc (own := [("_law_cell_here", 8)]) rfl nd (vi_val (ve_var 7)) (blkOk_by (by change blkC ["_law_script", "_law_board_here", "_law_whole", "_law_ways", "_law_rows", "_law_told", "_law_number", "_law_row", "_law_cell_here", "_law_own", "_law_like", "_law_firsts", "_law_sizes", "_law_other", "_law_names", "_law_renamed", "_law_there", "_law_letter", "_law_many", "_law_sign"] (defScope s_law) _ _ = true; decide +kernel)) (by decide) (fun _ _ _ _ _ => (vg_name 8 nd)) (fun _ _ _ _ _ => vc_nil) (fun _ _ _ _ _ => (ve_call (letter_at_fn T) Vd.takes0 hr (by decide) rfl (va_cons (ve_var 1) (va_cons (ve_var 8) va_nil)) (aCons_len (aCons_len aNil_len)))))))) (VE.b ve_int) (nomark _))))) (vss_one (vs_ret ve_bl)) vss_nil)
      (vss_one (vs_kill [8, 9, 10] (vs_for pz rfl (vi_val (ve_var 7)) (vg_name 8 nd) (vss_thenKill [8, 9, 10] (vss_cons (vs_set 9 (ve_call (letter_at_fn T) tk hr (by decide) rfl (va_cons (ve_var 1) (va_cons (ve_var 8) va_nil)) (aCons_len (aCons_len aNil_len))) nd)
      (vss_cons (vs_thenFrz 10 (vs_setLc 10 (own := [("_law_there", 16)]) rfl nd (vi_val (ve_call (beside_fn T) tk hr (by decide) rfl (va_cons (ve_var 1) (va_cons (ve_var 8) (va_cons (ve_var 3) va_nil))) (aCons_len (aCons_len (aCons_len aNil_len))))) (blkOk_by (by change blkC ["_law_script", "_law_board_here", "_law_whole", "_law_ways", "_law_rows", "_law_told", "_law_number", "_law_row", "_law_cell_here", "_law_own", "_law_like", "_law_firsts", "_law_sizes", "_law_other", "_law_names", "_law_renamed", "_law_there", "_law_letter", "_law_many", "_law_sign"] (defScope s_law) _ _ = true; decide +kernel)) (by decide) (fun _ _ _ _ _ => (vg_name 16 nd)) (fun _ _ _ _ _ => (vc_one (vt_cmp (op_pEq hr.units) nx_pEq (VE.b (ve_call (letter_at_fn T) Vd.takes0 hr (by decide) rfl (va_cons (ve_var 1) (va_cons (ve_var 16) va_nil)) (aCons_len (aCons_len aNil_len)))) (vb_var 9) (nomark _)))) (fun _ _ _ _ _ => (ve_var 16))))
      (vss_cons (vs_if (vt_cmp (op_pNe hr.units) nx_pEq (VE.b (VN.e (vn_lc (own := [("_law_there", 16)]) rfl nd (vi_val (ve_var 10)) (blkOk_by (by change blkC ["_law_script", "_law_board_here", "_law_whole", "_law_ways", "_law_rows", "_law_told", "_law_number", "_law_row", "_law_cell_here", "_law_own", "_law_like", "_law_firsts", "_law_sizes", "_law_other", "_law_names", "_law_renamed", "_law_there", "_law_letter", "_law_many", "_law_sign"] (defScope s_law) _ _ = true; decide +kernel)) (by decide) (fun _ _ _ _ _ => (vg_name 16 nd)) (fun _ _ _ _ _ => (vc_one (vt_nin hu (vb_var 16) (vb_var 7)))) (fun _ _ _ _ _ => (ve_var 16))))) (VE.b (ve_lst va_nil)) (nomark _)) (vss_one (vs_ret ve_bl)) vss_nil)
      (vss_one (vs_if (vt_cmp (op_pNe hr.units) nx_pEq (VE.b (ve_get hu (VE.b (ve_get hu (vb_var 5) (VE.b (ve_get hu (vb_var 8) (VE.b ve_int))))) (VE.b (ve_get hu (vb_var 8) (VE.b ve_int))))) (vb_var 6) (nomark _)) (vss_one (vs_ret ve_bl)) vss_nil)))))))))))))
      (vss_cons (vs_thenFrz 11 (vs_setLc 11 (own := [("_law_row", 7)]) rfl nd (vi_val (ve_var 4)) (blkOk_by (by change blkC ["_law_script", "_law_board_here", "_law_whole", "_law_ways", "_law_rows", "_law_told", "_law_number", "_law_row", "_law_cell_here", "_law_own", "_law_like", "_law_firsts", "_law_sizes", "_law_other", "_law_names", "_law_renamed", "_law_there", "_law_letter", "_law_many", "_law_sign"] (defScope s_law) _ _ = true; decide +kernel)) (by decide) (fun _ _ _ _ _ => (vg_name 7 nd)) (fun _ _ _ _ _ => vc_nil) (fun _ _ _ _ _ => (ve_get hu (vb_var 7) (VE.b ve_int)))))
      (vss_cons (vs_if (VW.t (vw_or (vt_cmp (op_pNe hr.units) nx_pEq (vb_var 11) (VE.b (ve_callB (cal_sorted rfl hr.units) nx_pSorted T.n_sorted (by decide +kernel) (vab_cons (vb_var 11) vab_nil))) (nomark _)) (vw_or1 (vt_cmp (op_pNe hr.units) nx_pEq (VE.b (ve_call (patch_of_fn T) tk hr (by decide) rfl (va_cons (ve_var 1) (va_cons (ve_get hu (VE.b (ve_get hu (vb_var 4) (VE.b (ve_neg ve_int)))) (VE.b (ve_neg ve_int))) (va_cons (ve_var 3) va_nil))) (aCons_len (aCons_len (aCons_len aNil_len))))) (VE.b (ve_get hu (vb_var 4) (VE.b (ve_neg ve_int)))) (nomark _))))) (vss_one (vs_ret ve_bl)) vss_nil)
      (vss_cons (vs_set 12 (ve_callB (cal_sorted rfl hr.units) nx_pSorted T.n_sorted (by decide +kernel) (vab_cons (VE.b (VN.e (vn_lc (own := [("_law_row", 7)]) rfl nd (vi_val (ve_var 4)) (blkOk_by (by change blkC ["_law_script", "_law_board_here", "_law_whole", "_law_ways", "_law_rows", "_law_told", "_law_number", "_law_row", "_law_cell_here", "_law_own", "_law_like", "_law_firsts", "_law_sizes", "_law_other", "_law_names", "_law_renamed", "_law_there", "_law_letter", "_law_many", "_law_sign"] (defScope s_law) _ _ = true; decide +kernel)) (by decide) (fun _ _ _ _ _ => (vg_name 7 nd)) (fun _ _ _ _ _ => vc_nil) (fun _ _ _ _ _ => (ve_callB cal_len nx_pLen T.n_len PySem.boot_len (vab_cons (vb_var 7) vab_nil)))))) vab_nil)) nd)
      (vss_cons (vs_kill [13] (vs_for pz rfl (vi_val (ve_tup (va_cons (ve_call (turned_fn T) tk hr (by decide) rfl (va_cons (ve_var 1) va_nil) (aCons_len aNil_len)) (va_cons (ve_call (mirrored_fn T) tk hr (by decide) rfl (va_cons (ve_var 1) va_nil) (aCons_len aNil_len)) (va_cons (ve_revA (vb_var 1)) va_nil))))) (vg_name 13 nd) (vss_thenKill [13] (vss_one (vs_if (vt_cmp (op_pNe hr.units) nx_pEq (VE.b (ve_callB (cal_sorted rfl hr.units) nx_pSorted T.n_sorted (by decide +kernel) (vab_cons (VE.b (VN.e (vn_lc (own := [("_law_row", 7)]) rfl nd (vi_val (ve_call (patches_fn T) tk hr (by decide) rfl (va_cons (ve_var 13) (va_cons (ve_var 3) va_nil)) (aCons_len (aCons_len aNil_len)))) (blkOk_by (by change blkC ["_law_script", "_law_board_here", "_law_whole", "_law_ways", "_law_rows", "_law_told", "_law_number", "_law_row", "_law_cell_here", "_law_own", "_law_like", "_law_firsts", "_law_sizes", "_law_other", "_law_names", "_law_renamed", "_law_there", "_law_letter", "_law_many", "_law_sign"] (defScope s_law) _ _ = true; decide +kernel)) (by decide) (fun _ _ _ _ _ => (vg_name 7 nd)) (fun _ _ _ _ _ => vc_nil) (fun _ _ _ _ _ => (ve_callB cal_len nx_pLen T.n_len PySem.boot_len (vab_cons (vb_var 7) vab_nil)))))) vab_nil))) (vb_var 12) (nomark _)) (vss_one (vs_ret ve_bl)) vss_nil)))))
      (vss_cons (vs_set 14 (VN.e (vn_dictZ rfl T.n_dict T.n_zip (va_cons (VN.e (vn_lc (own := [("_law_letter", 17), ("_law_many", 18)]) rfl nd (vi_val (ve_call (letters_fn T) tk hr (by decide) rfl (va_cons (ve_var 1) va_nil) (aCons_len aNil_len))) (blkOk_by (by change blkC ["_law_script", "_law_board_here", "_law_whole", "_law_ways", "_law_rows", "_law_told", "_law_number", "_law_row", "_law_cell_here", "_law_own", "_law_like", "_law_firsts", "_law_sizes", "_law_other", "_law_names", "_law_renamed", "_law_there", "_law_letter", "_law_many", "_law_sign"] (defScope s_law) _ _ = true; decide +kernel)) (by decide) (fun _ _ _ _ _ => (vg_tup rfl (vgs_cons (vg_name 17 nd) (vgs_cons (vg_name 18 nd) vgs_nil)))) (fun _ _ _ _ _ => vc_nil) (fun _ _ _ _ _ => (ve_var 17)))) (va_cons (ve_str [102, 101, 100, 99, 98, 97]) va_nil)))) nd)
      (vss_cons (vs_set 15 (ve_callTy cal_tuple nx_pTuple T.n_tuple (by decide +kernel) (vab_cons (VE.b (VN.e (vn_lc (own := [("_law_row", 7)]) rfl nd (vi_val (ve_var 1)) (blkOk_by (by change blkC ["_law_script", "_law_board_here", "_law_whole", "_law_ways", "_law_rows", "_law_told", "_law_number", "_law_row", "_law_cell_here", "_law_own", "_law_like", "_law_firsts", "_law_sizes", "_law_other", "_law_names", "_law_renamed", "_law_there", "_law_letter", "_law_many", "_law_sign"] (defScope s_law) _ _ = true; decide +kernel)) (by decide) (fun _ _ _ _ _ => (vg_name 7 nd)) (fun _ _ _ _ _ => vc_nil) (fun _ _ _ _ _ => (ve_join (VE.b (ve_str [])) (VE.b (VN.e (vn_lc (own := [("_law_sign", 19)]) rfl nd (vi_val (ve_var 7)) (blkOk_by (by kernel_rfl)) (by decide) (fun _ _ _ _ _ => (vg_name 19 nd)) (fun _ _ _ _ _ => vc_nil) (fun _ _ _ _ _ => (ve_get hu (vb_var 14) (vb_var 19))))))))))) vab_nil)) nd)
      (vss_one (vs_if (vt_cmp (op_pNe hr.units) nx_pEq (VE.b (ve_call (patches_fn T) tk hr (by decide) rfl (va_cons (ve_var 15) (va_cons (ve_var 3) va_nil)) (aCons_len (aCons_len aNil_len)))) (vb_var 4) (nomark _)) (vss_one (vs_ret ve_bl)) vss_nil)))))))))))))))
      (vss_one (vs_ret (ve_cmp op_cLe nx_pCmp (VE.b (ve_call (how_many_fn T) tk hr (by decide) rfl (va_cons (ve_var 1) (va_cons ve_int va_nil)) (aCons_len (aCons_len aNil_len)))) (VE.b (ve_call (how_many_fn T) tk hr (by decide) rfl (va_cons (ve_var 1) (va_cons ve_int va_nil)) (aCons_len (aCons_len aNil_len)))) (nomark _))))))))
end
end Cp



/-! D1: the defs on encoded boards. -/
namespace Cp

open L2 PyProof.Rows PySem PySem.Spec Vd

theorem _root_.Vd.Good.rl {b : Bd} (g : Vd.Good b) {r : List Nat} (h : r ∈ b) : r.length ≤ 8 := by rw [g.row r h]; exact g.w8
theorem D_is_number (i lo hi : Int) : F_is_number [wI i, wI lo, wI hi] = .ok (bv (decide (lo ≤ i) && decide (i ≤ hi))) := by
  have h1 : pIsi "int" (wI i) = .ok (bv true) := rfl
  have h2 : pIsi "bool" (wI i) = .ok (bv false) := rfl
  simp only [fnSem, rho0, outW_rt, outW_nx, gSeq, Vd.gNil, gDo, gRet, gSet, gOwn, gIf, gAsg, gFrz, gKill, gThenKill, gThenFrz, gApp, gExt, gEx, nLst, fOt, otw, f1, f2, fT, fAnd, fOr, fNot, fAndV, fOrV, fNotV, fIf, fCal, aNil, aCons, fTup, fSl, oNo, oSo, fChain, fV, fO, fC, iVal, iL, setF, setO, nG, tupG, consG, nilG, killAt, frzAt, fzS, nDisp1T, fS1, cYes, unlG, bindok, bindex, bindno, noEx_ok, tb_bv, asDat_dat, asDat_wC, asDat_wI, asDat_bv, asDat_wR, asDat_wS, asDat_wN, pds_nil, pds_dat, pds_wI, pds_wC, pds_wR, pds_bv, asI_I, pAdd_I, pSub_I, pCmp_I, pNeg_I, List.map_cons, List.map_nil, List.length_cons, List.length_nil, List.replicate_succ, List.replicate_zero, List.cons_append, List.nil_append, List.getElem?_cons_zero, List.getElem?_cons_succ, List.getD_cons_zero, List.getD_cons_succ, List.set_cons_zero, List.set_cons_succ, Nat.reduceAdd, Nat.reduceSub, Nat.reduceLT, Nat.reduceLeDiff, Nat.zero_lt_succ, if_true, if_false, Bool.false_eq_true, decide_true, decide_false, Bool.not_true, Bool.not_false, Bool.true_and, Bool.and_true, reduceIte, reduceCtorEq, Bool.true_eq_false, Bool.false_eq_true, not_true_eq_false, not_false_eq_true, fits0, fits1, fits2, fits3, fits4, pLen_B, pLen_Cs, pLen_C, pGet_C0, pGet_C1, pGet_K0, pGet_K1, pGet_Cs0, pEq_I, pEq_C, pEq_Cs, pEq_bl, pIn_Cs, pIn_D, items_Cs, items_B, items_R, F_is_number, g_is_number, h1, h2]
  by_cases c : lo ≤ i <;> simp only [c, decide_true, decide_false, if_true, if_false, Bool.true_and, Bool.false_and, Bool.false_eq_true, bindok, outW_rt]
theorem D_is_board {b : Bd} (g : Good b) : F_is_board [wB b] = .ok (bv true) := by
  have h1 : pIsi "tuple" (wB b) = .ok (bv true) := rfl
  have hM : c_MOST = wI 8 := rfl
  have a1 := g.h1
  have a2 := g.h8
  have a3 := g.w1
  have a4 := g.w8
  have e1 : decide ((1 : Int) ≤ b.length) = true := decide_eq_true (by omega)
  have e2 : decide ((b.length : Int) ≤ 8) = true := decide_eq_true (by omega)
  simp only [fnSem, rho0, outW_rt, outW_nx, gSeq, Vd.gNil, gDo, gRet, gSet, gOwn, gIf, gAsg, gFrz, gKill, gThenKill, gThenFrz, gApp, gExt, gEx, nLst, fOt, otw, f1, f2, fT, fAnd, fOr, fNot, fAndV, fOrV, fNotV, fIf, fCal, aNil, aCons, fTup, fSl, oNo, oSo, fChain, fV, fO, fC, iVal, iL, setF, setO, nG, tupG, consG, nilG, killAt, frzAt, fzS, nDisp1T, fS1, cYes, unlG, bindok, bindex, bindno, noEx_ok, tb_bv, asDat_dat, asDat_wC, asDat_wI, asDat_bv, asDat_wR, asDat_wS, asDat_wN, pds_nil, pds_dat, pds_wI, pds_wC, pds_wR, pds_bv, asI_I, pAdd_I, pSub_I, pCmp_I, pNeg_I, List.map_cons, List.map_nil, List.length_cons, List.length_nil, List.replicate_succ, List.replicate_zero, List.cons_append, List.nil_append, List.getElem?_cons_zero, List.getElem?_cons_succ, List.getD_cons_zero, List.getD_cons_succ, List.set_cons_zero, List.set_cons_succ, Nat.reduceAdd, Nat.reduceSub, Nat.reduceLT, Nat.reduceLeDiff, Nat.zero_lt_succ, if_true, if_false, Bool.false_eq_true, decide_true, decide_false, Bool.not_true, Bool.not_false, Bool.true_and, Bool.and_true, reduceIte, reduceCtorEq, Bool.true_eq_false, Bool.false_eq_true, not_true_eq_false, not_false_eq_true, fits0, fits1, fits2, fits3, fits4, pLen_B, pLen_Cs, pLen_C, pGet_C0, pGet_C1, pGet_K0, pGet_K1, pGet_Cs0, pEq_I, pEq_C, pEq_Cs, pEq_bl, pIn_Cs, pIn_D, items_Cs, items_B, items_R, F_is_board, g_is_board, h1, hM, e1, e2]
  rw [gFor_inv wR b (fun _ : Unit => [.fz (wB b), .un, .un]) (fun s _ => s) (fun l _ => ∀ r ∈ l, r ∈ b) ()]
  · simp only [fnSem, rho0, outW_rt, outW_nx, gSeq, Vd.gNil, gDo, gRet, gSet, gOwn, gIf, gAsg, gFrz, gKill, gThenKill, gThenFrz, gApp, gExt, gEx, nLst, fOt, otw, f1, f2, fT, fAnd, fOr, fNot, fAndV, fOrV, fNotV, fIf, fCal, aNil, aCons, fTup, fSl, oNo, oSo, fChain, fV, fO, fC, iVal, iL, setF, setO, nG, tupG, consG, nilG, killAt, frzAt, fzS, nDisp1T, fS1, cYes, unlG, bindok, bindex, bindno, noEx_ok, tb_bv, asDat_dat, asDat_wC, asDat_wI, asDat_bv, asDat_wR, asDat_wS, asDat_wN, pds_nil, pds_dat, pds_wI, pds_wC, pds_wR, pds_bv, asI_I, pAdd_I, pSub_I, pCmp_I, pNeg_I, List.map_cons, List.map_nil, List.length_cons, List.length_nil, List.replicate_succ, List.replicate_zero, List.cons_append, List.nil_append, List.getElem?_cons_zero, List.getElem?_cons_succ, List.getD_cons_zero, List.getD_cons_succ, List.set_cons_zero, List.set_cons_succ, Nat.reduceAdd, Nat.reduceSub, Nat.reduceLT, Nat.reduceLeDiff, Nat.zero_lt_succ, if_true, if_false, Bool.false_eq_true, decide_true, decide_false, Bool.not_true, Bool.not_false, Bool.true_and, Bool.and_true, reduceIte, reduceCtorEq, Bool.true_eq_false, Bool.false_eq_true, not_true_eq_false, not_false_eq_true, fits0, fits1, fits2, fits3, fits4, pLen_B, pLen_Cs, pLen_C, pGet_C0, pGet_C1, pGet_K0, pGet_K1, pGet_Cs0, pEq_I, pEq_C, pEq_Cs, pEq_bl, pIn_Cs, pIn_D, items_Cs, items_B, items_R, wbv_eq]
  · simp only [fnSem, rho0, outW_rt, outW_nx, gSeq, Vd.gNil, gDo, gRet, gSet, gOwn, gIf, gAsg, gFrz, gKill, gThenKill, gThenFrz, gApp, gExt, gEx, nLst, fOt, otw, f1, f2, fT, fAnd, fOr, fNot, fAndV, fOrV, fNotV, fIf, fCal, aNil, aCons, fTup, fSl, oNo, oSo, fChain, fV, fO, fC, iVal, iL, setF, setO, nG, tupG, consG, nilG, killAt, frzAt, fzS, nDisp1T, fS1, cYes, unlG, bindok, bindex, bindno, noEx_ok, tb_bv, asDat_dat, asDat_wC, asDat_wI, asDat_bv, asDat_wR, asDat_wS, asDat_wN, pds_nil, pds_dat, pds_wI, pds_wC, pds_wR, pds_bv, asI_I, pAdd_I, pSub_I, pCmp_I, pNeg_I, List.map_cons, List.map_nil, List.length_cons, List.length_nil, List.replicate_succ, List.replicate_zero, List.cons_append, List.nil_append, List.getElem?_cons_zero, List.getElem?_cons_succ, List.getD_cons_zero, List.getD_cons_succ, List.set_cons_zero, List.set_cons_succ, Nat.reduceAdd, Nat.reduceSub, Nat.reduceLT, Nat.reduceLeDiff, Nat.zero_lt_succ, if_true, if_false, Bool.false_eq_true, decide_true, decide_false, Bool.not_true, Bool.not_false, Bool.true_and, Bool.and_true, reduceIte, reduceCtorEq, Bool.true_eq_false, Bool.false_eq_true, not_true_eq_false, not_false_eq_true, fits0, fits1, fits2, fits3, fits4, pLen_B, pLen_Cs, pLen_C, pGet_C0, pGet_C1, pGet_K0, pGet_K1, pGet_Cs0, pEq_I, pEq_C, pEq_Cs, pEq_bl, pIn_Cs, pIn_D, items_Cs, items_B, items_R]
  · rfl
  · exact fun r hr => hr
  · intro r l s hl
    have hr := hl r List.mem_cons_self
    refine ⟨?_, fun x hx => hl x (List.mem_cons_of_mem _ hx)⟩
    have hw := g.row r hr
    have h1 : pIsi "str" (wR r) = .ok (bv true) := rfl
    have h2 : pLen [wR r] = .ok (wI (wd b)) := by rw [pLen_R _ (by unfold sizeLine; omega), hw]
    have e3 : decide ((1 : Int) ≤ wd b) = true := decide_eq_true (by omega)
    have e4 : decide ((wd b : Int) ≤ 8) = true := decide_eq_true (by omega)
    simp only [fnSem, rho0, outW_rt, outW_nx, gSeq, Vd.gNil, gDo, gRet, gSet, gOwn, gIf, gAsg, gFrz, gKill, gThenKill, gThenFrz, gApp, gExt, gEx, nLst, fOt, otw, f1, f2, fT, fAnd, fOr, fNot, fAndV, fOrV, fNotV, fIf, fCal, aNil, aCons, fTup, fSl, oNo, oSo, fChain, fV, fO, fC, iVal, iL, setF, setO, nG, tupG, consG, nilG, killAt, frzAt, fzS, nDisp1T, fS1, cYes, unlG, bindok, bindex, bindno, noEx_ok, tb_bv, asDat_dat, asDat_wC, asDat_wI, asDat_bv, asDat_wR, asDat_wS, asDat_wN, pds_nil, pds_dat, pds_wI, pds_wC, pds_wR, pds_bv, asI_I, pAdd_I, pSub_I, pCmp_I, pNeg_I, List.map_cons, List.map_nil, List.length_cons, List.length_nil, List.replicate_succ, List.replicate_zero, List.cons_append, List.nil_append, List.getElem?_cons_zero, List.getElem?_cons_succ, List.getD_cons_zero, List.getD_cons_succ, List.set_cons_zero, List.set_cons_succ, Nat.reduceAdd, Nat.reduceSub, Nat.reduceLT, Nat.reduceLeDiff, Nat.zero_lt_succ, if_true, if_false, Bool.false_eq_true, decide_true, decide_false, Bool.not_true, Bool.not_false, Bool.true_and, Bool.and_true, reduceIte, reduceCtorEq, Bool.true_eq_false, Bool.false_eq_true, not_true_eq_false, not_false_eq_true, fits0, fits1, fits2, fits3, fits4, pLen_B, pLen_Cs, pLen_C, pGet_C0, pGet_C1, pGet_K0, pGet_K1, pGet_Cs0, pEq_I, pEq_C, pEq_Cs, pEq_bl, pIn_Cs, pIn_D, items_Cs, items_B, items_R, h1, h2, e3, e4, g.get0, g.len0]
    rw [nLc_all (fun c => wS [c]) r (fun c => .bool true)]
    · simp only [fnSem, rho0, outW_rt, outW_nx, gSeq, Vd.gNil, gDo, gRet, gSet, gOwn, gIf, gAsg, gFrz, gKill, gThenKill, gThenFrz, gApp, gExt, gEx, nLst, fOt, otw, f1, f2, fT, fAnd, fOr, fNot, fAndV, fOrV, fNotV, fIf, fCal, aNil, aCons, fTup, fSl, oNo, oSo, fChain, fV, fO, fC, iVal, iL, setF, setO, nG, tupG, consG, nilG, killAt, frzAt, fzS, nDisp1T, fS1, cYes, unlG, bindok, bindex, bindno, noEx_ok, tb_bv, asDat_dat, asDat_wC, asDat_wI, asDat_bv, asDat_wR, asDat_wS, asDat_wN, pds_nil, pds_dat, pds_wI, pds_wC, pds_wR, pds_bv, asI_I, pAdd_I, pSub_I, pCmp_I, pNeg_I, List.map_cons, List.map_nil, List.length_cons, List.length_nil, List.replicate_succ, List.replicate_zero, List.cons_append, List.nil_append, List.getElem?_cons_zero, List.getElem?_cons_succ, List.getD_cons_zero, List.getD_cons_succ, List.set_cons_zero, List.set_cons_succ, Nat.reduceAdd, Nat.reduceSub, Nat.reduceLT, Nat.reduceLeDiff, Nat.zero_lt_succ, if_true, if_false, Bool.false_eq_true, decide_true, decide_false, Bool.not_true, Bool.not_false, Bool.true_and, Bool.and_true, reduceIte, reduceCtorEq, Bool.true_eq_false, Bool.false_eq_true, not_true_eq_false, not_false_eq_true, fits0, fits1, fits2, fits3, fits4, pLen_B, pLen_Cs, pLen_C, pGet_C0, pGet_C1, pGet_K0, pGet_K1, pGet_Cs0, pEq_I, pEq_C, pEq_Cs, pEq_bl, pIn_Cs, pIn_D, items_Cs, items_B, items_R, pAll_map (fun _ => true) r, List.all_eq_true.mpr (fun _ _ => rfl)]
    · simp only [fnSem, rho0, outW_rt, outW_nx, gSeq, Vd.gNil, gDo, gRet, gSet, gOwn, gIf, gAsg, gFrz, gKill, gThenKill, gThenFrz, gApp, gExt, gEx, nLst, fOt, otw, f1, f2, fT, fAnd, fOr, fNot, fAndV, fOrV, fNotV, fIf, fCal, aNil, aCons, fTup, fSl, oNo, oSo, fChain, fV, fO, fC, iVal, iL, setF, setO, nG, tupG, consG, nilG, killAt, frzAt, fzS, nDisp1T, fS1, cYes, unlG, bindok, bindex, bindno, noEx_ok, tb_bv, asDat_dat, asDat_wC, asDat_wI, asDat_bv, asDat_wR, asDat_wS, asDat_wN, pds_nil, pds_dat, pds_wI, pds_wC, pds_wR, pds_bv, asI_I, pAdd_I, pSub_I, pCmp_I, pNeg_I, List.map_cons, List.map_nil, List.length_cons, List.length_nil, List.replicate_succ, List.replicate_zero, List.cons_append, List.nil_append, List.getElem?_cons_zero, List.getElem?_cons_succ, List.getD_cons_zero, List.getD_cons_succ, List.set_cons_zero, List.set_cons_succ, Nat.reduceAdd, Nat.reduceSub, Nat.reduceLT, Nat.reduceLeDiff, Nat.zero_lt_succ, if_true, if_false, Bool.false_eq_true, decide_true, decide_false, Bool.not_true, Bool.not_false, Bool.true_and, Bool.and_true, reduceIte, reduceCtorEq, Bool.true_eq_false, Bool.false_eq_true, not_true_eq_false, not_false_eq_true, fits0, fits1, fits2, fits3, fits4, pLen_B, pLen_Cs, pLen_C, pGet_C0, pGet_C1, pGet_K0, pGet_K1, pGet_Cs0, pEq_I, pEq_C, pEq_Cs, pEq_bl, pIn_Cs, pIn_D, items_Cs, items_B, items_R]
    · unfold sizeLine; omega
    · intro c hc
      have hL : c_LETTERS = wS [97, 98, 99, 100, 101, 102] := rfl
      have hin := g.lets r hr c hc
      refine ⟨_, rfl, rfl, ?_⟩
      simp only [fnSem, rho0, outW_rt, outW_nx, gSeq, Vd.gNil, gDo, gRet, gSet, gOwn, gIf, gAsg, gFrz, gKill, gThenKill, gThenFrz, gApp, gExt, gEx, nLst, fOt, otw, f1, f2, fT, fAnd, fOr, fNot, fAndV, fOrV, fNotV, fIf, fCal, aNil, aCons, fTup, fSl, oNo, oSo, fChain, fV, fO, fC, iVal, iL, setF, setO, nG, tupG, consG, nilG, killAt, frzAt, fzS, nDisp1T, fS1, cYes, unlG, bindok, bindex, bindno, noEx_ok, tb_bv, asDat_dat, asDat_wC, asDat_wI, asDat_bv, asDat_wR, asDat_wS, asDat_wN, pds_nil, pds_dat, pds_wI, pds_wC, pds_wR, pds_bv, asI_I, pAdd_I, pSub_I, pCmp_I, pNeg_I, List.map_cons, List.map_nil, List.length_cons, List.length_nil, List.replicate_succ, List.replicate_zero, List.cons_append, List.nil_append, List.getElem?_cons_zero, List.getElem?_cons_succ, List.getD_cons_zero, List.getD_cons_succ, List.set_cons_zero, List.set_cons_succ, Nat.reduceAdd, Nat.reduceSub, Nat.reduceLT, Nat.reduceLeDiff, Nat.zero_lt_succ, if_true, if_false, Bool.false_eq_true, decide_true, decide_false, Bool.not_true, Bool.not_false, Bool.true_and, Bool.and_true, reduceIte, reduceCtorEq, Bool.true_eq_false, Bool.false_eq_true, not_true_eq_false, not_false_eq_true, fits0, fits1, fits2, fits3, fits4, pLen_B, pLen_Cs, pLen_C, pGet_C0, pGet_C1, pGet_K0, pGet_K1, pGet_Cs0, pEq_I, pEq_C, pEq_Cs, pEq_bl, pIn_Cs, pIn_D, items_Cs, items_B, items_R, hL, pIn_S, hin, wbv_eq]
theorem D_need_board {b : Bd} (g : Good b) : F_need_board [wB b] = .ok wN := by
  simp only [fnSem, rho0, outW_rt, outW_nx, gSeq, Vd.gNil, gDo, gRet, gSet, gOwn, gIf, gAsg, gFrz, gKill, gThenKill, gThenFrz, gApp, gExt, gEx, nLst, fOt, otw, f1, f2, fT, fAnd, fOr, fNot, fAndV, fOrV, fNotV, fIf, fCal, aNil, aCons, fTup, fSl, oNo, oSo, fChain, fV, fO, fC, iVal, iL, setF, setO, nG, tupG, consG, nilG, killAt, frzAt, fzS, nDisp1T, fS1, cYes, unlG, bindok, bindex, bindno, noEx_ok, tb_bv, asDat_dat, asDat_wC, asDat_wI, asDat_bv, asDat_wR, asDat_wS, asDat_wN, pds_nil, pds_dat, pds_wI, pds_wC, pds_wR, pds_bv, asI_I, pAdd_I, pSub_I, pCmp_I, pNeg_I, List.map_cons, List.map_nil, List.length_cons, List.length_nil, List.replicate_succ, List.replicate_zero, List.cons_append, List.nil_append, List.getElem?_cons_zero, List.getElem?_cons_succ, List.getD_cons_zero, List.getD_cons_succ, List.set_cons_zero, List.set_cons_succ, Nat.reduceAdd, Nat.reduceSub, Nat.reduceLT, Nat.reduceLeDiff, Nat.zero_lt_succ, if_true, if_false, Bool.false_eq_true, decide_true, decide_false, Bool.not_true, Bool.not_false, Bool.true_and, Bool.and_true, reduceIte, reduceCtorEq, Bool.true_eq_false, Bool.false_eq_true, not_true_eq_false, not_false_eq_true, fits0, fits1, fits2, fits3, fits4, pLen_B, pLen_Cs, pLen_C, pGet_C0, pGet_C1, pGet_K0, pGet_K1, pGet_Cs0, pEq_I, pEq_C, pEq_Cs, pEq_bl, pIn_Cs, pIn_D, items_Cs, items_B, items_R, F_need_board, g_need_board, D_is_board g]
theorem D_need_ways {k : Int} (h : k = 4 ∨ k = 8) : F_need_ways [wI k] = .ok wN := by
  have e1 : decide ((4 : Int) ≤ k) = true := decide_eq_true (by omega)
  have e2 : decide (k ≤ (8 : Int)) = true := decide_eq_true (by omega)
  simp only [fnSem, rho0, outW_rt, outW_nx, gSeq, Vd.gNil, gDo, gRet, gSet, gOwn, gIf, gAsg, gFrz, gKill, gThenKill, gThenFrz, gApp, gExt, gEx, nLst, fOt, otw, f1, f2, fT, fAnd, fOr, fNot, fAndV, fOrV, fNotV, fIf, fCal, aNil, aCons, fTup, fSl, oNo, oSo, fChain, fV, fO, fC, iVal, iL, setF, setO, nG, tupG, consG, nilG, killAt, frzAt, fzS, nDisp1T, fS1, cYes, unlG, bindok, bindex, bindno, noEx_ok, tb_bv, asDat_dat, asDat_wC, asDat_wI, asDat_bv, asDat_wR, asDat_wS, asDat_wN, pds_nil, pds_dat, pds_wI, pds_wC, pds_wR, pds_bv, asI_I, pAdd_I, pSub_I, pCmp_I, pNeg_I, List.map_cons, List.map_nil, List.length_cons, List.length_nil, List.replicate_succ, List.replicate_zero, List.cons_append, List.nil_append, List.getElem?_cons_zero, List.getElem?_cons_succ, List.getD_cons_zero, List.getD_cons_succ, List.set_cons_zero, List.set_cons_succ, Nat.reduceAdd, Nat.reduceSub, Nat.reduceLT, Nat.reduceLeDiff, Nat.zero_lt_succ, if_true, if_false, Bool.false_eq_true, decide_true, decide_false, Bool.not_true, Bool.not_false, Bool.true_and, Bool.and_true, reduceIte, reduceCtorEq, Bool.true_eq_false, Bool.false_eq_true, not_true_eq_false, not_false_eq_true, fits0, fits1, fits2, fits3, fits4, pLen_B, pLen_Cs, pLen_C, pGet_C0, pGet_C1, pGet_K0, pGet_K1, pGet_Cs0, pEq_I, pEq_C, pEq_Cs, pEq_bl, pIn_Cs, pIn_D, items_Cs, items_B, items_R, F_need_ways, g_need_ways, D_is_number, e1, e2, pIn_48, h]
theorem D_is_cell {b : Bd} (g : Good b) (c : C2) : F_is_cell [wB b, wC c] = .ok (bv (ins b c)) := by
  have h1 : pIsi "tuple" (wC c) = .ok (bv true) := rfl
  simp only [fnSem, rho0, outW_rt, outW_nx, gSeq, Vd.gNil, gDo, gRet, gSet, gOwn, gIf, gAsg, gFrz, gKill, gThenKill, gThenFrz, gApp, gExt, gEx, nLst, fOt, otw, f1, f2, fT, fAnd, fOr, fNot, fAndV, fOrV, fNotV, fIf, fCal, aNil, aCons, fTup, fSl, oNo, oSo, fChain, fV, fO, fC, iVal, iL, setF, setO, nG, tupG, consG, nilG, killAt, frzAt, fzS, nDisp1T, fS1, cYes, unlG, bindok, bindex, bindno, noEx_ok, tb_bv, asDat_dat, asDat_wC, asDat_wI, asDat_bv, asDat_wR, asDat_wS, asDat_wN, pds_nil, pds_dat, pds_wI, pds_wC, pds_wR, pds_bv, asI_I, pAdd_I, pSub_I, pCmp_I, pNeg_I, List.map_cons, List.map_nil, List.length_cons, List.length_nil, List.replicate_succ, List.replicate_zero, List.cons_append, List.nil_append, List.getElem?_cons_zero, List.getElem?_cons_succ, List.getD_cons_zero, List.getD_cons_succ, List.set_cons_zero, List.set_cons_succ, Nat.reduceAdd, Nat.reduceSub, Nat.reduceLT, Nat.reduceLeDiff, Nat.zero_lt_succ, if_true, if_false, Bool.false_eq_true, decide_true, decide_false, Bool.not_true, Bool.not_false, Bool.true_and, Bool.and_true, reduceIte, reduceCtorEq, Bool.true_eq_false, Bool.false_eq_true, not_true_eq_false, not_false_eq_true, fits0, fits1, fits2, fits3, fits4, pLen_B, pLen_Cs, pLen_C, pGet_C0, pGet_C1, pGet_K0, pGet_K1, pGet_Cs0, pEq_I, pEq_C, pEq_Cs, pEq_bl, pIn_Cs, pIn_D, items_Cs, items_B, items_R, F_is_cell, g_is_cell, h1, D_is_number, g.get0, g.len0]
  unfold ins
  by_cases c1 : 0 ≤ c.1 ∧ c.1 ≤ (b.length : Int) - 1
  · obtain ⟨c2, c3⟩ := c1
    simp only [fnSem, rho0, outW_rt, outW_nx, gSeq, Vd.gNil, gDo, gRet, gSet, gOwn, gIf, gAsg, gFrz, gKill, gThenKill, gThenFrz, gApp, gExt, gEx, nLst, fOt, otw, f1, f2, fT, fAnd, fOr, fNot, fAndV, fOrV, fNotV, fIf, fCal, aNil, aCons, fTup, fSl, oNo, oSo, fChain, fV, fO, fC, iVal, iL, setF, setO, nG, tupG, consG, nilG, killAt, frzAt, fzS, nDisp1T, fS1, cYes, unlG, bindok, bindex, bindno, noEx_ok, tb_bv, asDat_dat, asDat_wC, asDat_wI, asDat_bv, asDat_wR, asDat_wS, asDat_wN, pds_nil, pds_dat, pds_wI, pds_wC, pds_wR, pds_bv, asI_I, pAdd_I, pSub_I, pCmp_I, pNeg_I, List.map_cons, List.map_nil, List.length_cons, List.length_nil, List.replicate_succ, List.replicate_zero, List.cons_append, List.nil_append, List.getElem?_cons_zero, List.getElem?_cons_succ, List.getD_cons_zero, List.getD_cons_succ, List.set_cons_zero, List.set_cons_succ, Nat.reduceAdd, Nat.reduceSub, Nat.reduceLT, Nat.reduceLeDiff, Nat.zero_lt_succ, if_true, if_false, Bool.false_eq_true, decide_true, decide_false, Bool.not_true, Bool.not_false, Bool.true_and, Bool.and_true, reduceIte, reduceCtorEq, Bool.true_eq_false, Bool.false_eq_true, not_true_eq_false, not_false_eq_true, fits0, fits1, fits2, fits3, fits4, pLen_B, pLen_Cs, pLen_C, pGet_C0, pGet_C1, pGet_K0, pGet_K1, pGet_Cs0, pEq_I, pEq_C, pEq_Cs, pEq_bl, pIn_Cs, pIn_D, items_Cs, items_B, items_R, c2, c3, g.get0, g.len0, D_is_number, wbv_eq]
    rw [decide_eq_true (show c.1 < (b.length : Int) by omega), show decide (c.2 ≤ (wd b : Int) - 1) = decide (c.2 < (wd b : Int)) by congr 1; apply propext; omega]
    simp only [Bool.true_and]
  · have e : (decide (0 ≤ c.1) && decide (c.1 ≤ (b.length : Int) - 1)) = false := by
      rw [Bool.eq_false_iff]; intro h; simp at h; exact c1 h
    have e2 : (decide (0 ≤ c.1) && decide (c.1 < (b.length : Int))) = false := by
      rw [Bool.eq_false_iff]; intro h; simp at h; exact c1 ⟨h.1, by omega⟩
    simp only [fnSem, rho0, outW_rt, outW_nx, gSeq, Vd.gNil, gDo, gRet, gSet, gOwn, gIf, gAsg, gFrz, gKill, gThenKill, gThenFrz, gApp, gExt, gEx, nLst, fOt, otw, f1, f2, fT, fAnd, fOr, fNot, fAndV, fOrV, fNotV, fIf, fCal, aNil, aCons, fTup, fSl, oNo, oSo, fChain, fV, fO, fC, iVal, iL, setF, setO, nG, tupG, consG, nilG, killAt, frzAt, fzS, nDisp1T, fS1, cYes, unlG, bindok, bindex, bindno, noEx_ok, tb_bv, asDat_dat, asDat_wC, asDat_wI, asDat_bv, asDat_wR, asDat_wS, asDat_wN, pds_nil, pds_dat, pds_wI, pds_wC, pds_wR, pds_bv, asI_I, pAdd_I, pSub_I, pCmp_I, pNeg_I, List.map_cons, List.map_nil, List.length_cons, List.length_nil, List.replicate_succ, List.replicate_zero, List.cons_append, List.nil_append, List.getElem?_cons_zero, List.getElem?_cons_succ, List.getD_cons_zero, List.getD_cons_succ, List.set_cons_zero, List.set_cons_succ, Nat.reduceAdd, Nat.reduceSub, Nat.reduceLT, Nat.reduceLeDiff, Nat.zero_lt_succ, if_true, if_false, Bool.false_eq_true, decide_true, decide_false, Bool.not_true, Bool.not_false, Bool.true_and, Bool.and_true, reduceIte, reduceCtorEq, Bool.true_eq_false, Bool.false_eq_true, not_true_eq_false, not_false_eq_true, fits0, fits1, fits2, fits3, fits4, pLen_B, pLen_Cs, pLen_C, pGet_C0, pGet_C1, pGet_K0, pGet_K1, pGet_Cs0, pEq_I, pEq_C, pEq_Cs, pEq_bl, pIn_Cs, pIn_D, items_Cs, items_B, items_R, e, e2, wbv_eq, Bool.false_and]
theorem D_need_cell {b : Bd} (g : Good b) {c : C2} (h : ins b c = true) : F_need_cell [wB b, wC c] = .ok wN := by
  simp only [fnSem, rho0, outW_rt, outW_nx, gSeq, Vd.gNil, gDo, gRet, gSet, gOwn, gIf, gAsg, gFrz, gKill, gThenKill, gThenFrz, gApp, gExt, gEx, nLst, fOt, otw, f1, f2, fT, fAnd, fOr, fNot, fAndV, fOrV, fNotV, fIf, fCal, aNil, aCons, fTup, fSl, oNo, oSo, fChain, fV, fO, fC, iVal, iL, setF, setO, nG, tupG, consG, nilG, killAt, frzAt, fzS, nDisp1T, fS1, cYes, unlG, bindok, bindex, bindno, noEx_ok, tb_bv, asDat_dat, asDat_wC, asDat_wI, asDat_bv, asDat_wR, asDat_wS, asDat_wN, pds_nil, pds_dat, pds_wI, pds_wC, pds_wR, pds_bv, asI_I, pAdd_I, pSub_I, pCmp_I, pNeg_I, List.map_cons, List.map_nil, List.length_cons, List.length_nil, List.replicate_succ, List.replicate_zero, List.cons_append, List.nil_append, List.getElem?_cons_zero, List.getElem?_cons_succ, List.getD_cons_zero, List.getD_cons_succ, List.set_cons_zero, List.set_cons_succ, Nat.reduceAdd, Nat.reduceSub, Nat.reduceLT, Nat.reduceLeDiff, Nat.zero_lt_succ, if_true, if_false, Bool.false_eq_true, decide_true, decide_false, Bool.not_true, Bool.not_false, Bool.true_and, Bool.and_true, reduceIte, reduceCtorEq, Bool.true_eq_false, Bool.false_eq_true, not_true_eq_false, not_false_eq_true, fits0, fits1, fits2, fits3, fits4, pLen_B, pLen_Cs, pLen_C, pGet_C0, pGet_C1, pGet_K0, pGet_K1, pGet_Cs0, pEq_I, pEq_C, pEq_Cs, pEq_bl, pIn_Cs, pIn_D, items_Cs, items_B, items_R, F_need_cell, g_need_cell, D_is_cell g, h]
theorem D_need_both {b : Bd} (g : Good b) {k : Int} (h : k = 4 ∨ k = 8) : F_need_both [wB b, wI k] = .ok wN := by
  simp only [fnSem, rho0, outW_rt, outW_nx, gSeq, Vd.gNil, gDo, gRet, gSet, gOwn, gIf, gAsg, gFrz, gKill, gThenKill, gThenFrz, gApp, gExt, gEx, nLst, fOt, otw, f1, f2, fT, fAnd, fOr, fNot, fAndV, fOrV, fNotV, fIf, fCal, aNil, aCons, fTup, fSl, oNo, oSo, fChain, fV, fO, fC, iVal, iL, setF, setO, nG, tupG, consG, nilG, killAt, frzAt, fzS, nDisp1T, fS1, cYes, unlG, bindok, bindex, bindno, noEx_ok, tb_bv, asDat_dat, asDat_wC, asDat_wI, asDat_bv, asDat_wR, asDat_wS, asDat_wN, pds_nil, pds_dat, pds_wI, pds_wC, pds_wR, pds_bv, asI_I, pAdd_I, pSub_I, pCmp_I, pNeg_I, List.map_cons, List.map_nil, List.length_cons, List.length_nil, List.replicate_succ, List.replicate_zero, List.cons_append, List.nil_append, List.getElem?_cons_zero, List.getElem?_cons_succ, List.getD_cons_zero, List.getD_cons_succ, List.set_cons_zero, List.set_cons_succ, Nat.reduceAdd, Nat.reduceSub, Nat.reduceLT, Nat.reduceLeDiff, Nat.zero_lt_succ, if_true, if_false, Bool.false_eq_true, decide_true, decide_false, Bool.not_true, Bool.not_false, Bool.true_and, Bool.and_true, reduceIte, reduceCtorEq, Bool.true_eq_false, Bool.false_eq_true, not_true_eq_false, not_false_eq_true, fits0, fits1, fits2, fits3, fits4, pLen_B, pLen_Cs, pLen_C, pGet_C0, pGet_C1, pGet_K0, pGet_K1, pGet_Cs0, pEq_I, pEq_C, pEq_Cs, pEq_bl, pIn_Cs, pIn_D, items_Cs, items_B, items_R, F_need_both, g_need_both, D_need_board g, D_need_ways h]
/-- all cells, row by row -/
def rowC (b : Bd) (i : Nat) : List C2 := (List.range (wd b)).map fun j : Nat => ((i : Int), (j : Int))
def allC (b : Bd) : List C2 := (List.range b.length).flatMap (rowC b)
theorem rowC_len (b : Bd) (i : Nat) : (rowC b i).length = wd b := by simp [rowC]
theorem foldl_flat {α β : Type} (f : α → List β) : ∀ (l : List α) (s : List β), l.foldl (fun s a => s ++ f a) s = s ++ l.flatMap f
  | [], s => by simp
  | a :: l, s => by rw [List.foldl_cons, foldl_flat f l]; simp
theorem D_cells_row {b : Bd} (g : Good b) (i : Nat) (s : List C2) : nLc (iL rng1 (aCons (fCal pLen (aCons (f2 pGet (fO 0) (fC (wI 0))) aNil)) aNil)) [3] (nG 3) cYes (fTup (aCons (fV 2) (aCons (fV 3) aNil))) [.fz (wB b), .ow (.L (s.map pC)), .fz (wI i), .un] = .ok (.L ((rowC b i).map pC)) := by
  have a2 := g.w8
  rw [nLc_all (fun k : Nat => wI (k : Nat)) (List.range (wd b)) (fun j : Nat => pC ((i : Int), (j : Int)))]
  · rw [rowC, List.map_map]; rfl
  · simp only [fnSem, rho0, outW_rt, outW_nx, gSeq, Vd.gNil, gDo, gRet, gSet, gOwn, gIf, gAsg, gFrz, gKill, gThenKill, gThenFrz, gApp, gExt, gEx, nLst, fOt, otw, f1, f2, fT, fAnd, fOr, fNot, fAndV, fOrV, fNotV, fIf, fCal, aNil, aCons, fTup, fSl, oNo, oSo, fChain, fV, fO, fC, iVal, iL, setF, setO, nG, tupG, consG, nilG, killAt, frzAt, fzS, nDisp1T, fS1, cYes, unlG, bindok, bindex, bindno, noEx_ok, tb_bv, asDat_dat, asDat_wC, asDat_wI, asDat_bv, asDat_wR, asDat_wS, asDat_wN, pds_nil, pds_dat, pds_wI, pds_wC, pds_wR, pds_bv, asI_I, pAdd_I, pSub_I, pCmp_I, pNeg_I, List.map_cons, List.map_nil, List.length_cons, List.length_nil, List.replicate_succ, List.replicate_zero, List.cons_append, List.nil_append, List.getElem?_cons_zero, List.getElem?_cons_succ, List.getD_cons_zero, List.getD_cons_succ, List.set_cons_zero, List.set_cons_succ, Nat.reduceAdd, Nat.reduceSub, Nat.reduceLT, Nat.reduceLeDiff, Nat.zero_lt_succ, if_true, if_false, Bool.false_eq_true, decide_true, decide_false, Bool.not_true, Bool.not_false, Bool.true_and, Bool.and_true, reduceIte, reduceCtorEq, Bool.true_eq_false, Bool.false_eq_true, not_true_eq_false, not_false_eq_true, fits0, fits1, fits2, fits3, fits4, pLen_B, pLen_Cs, pLen_C, pGet_C0, pGet_C1, pGet_K0, pGet_K1, pGet_Cs0, pEq_I, pEq_C, pEq_Cs, pEq_bl, pIn_Cs, pIn_D, items_Cs, items_B, items_R, g.get0, g.len0]
    rw [rng1_I _ (by omega) (by omega), Int.toNat_natCast]
  · rw [List.length_range]; unfold sizeLine; omega
  · intro j hj
    refine ⟨_, rfl, rfl, ?_⟩
    simp only [fnSem, rho0, outW_rt, outW_nx, gSeq, Vd.gNil, gDo, gRet, gSet, gOwn, gIf, gAsg, gFrz, gKill, gThenKill, gThenFrz, gApp, gExt, gEx, nLst, fOt, otw, f1, f2, fT, fAnd, fOr, fNot, fAndV, fOrV, fNotV, fIf, fCal, aNil, aCons, fTup, fSl, oNo, oSo, fChain, fV, fO, fC, iVal, iL, setF, setO, nG, tupG, consG, nilG, killAt, frzAt, fzS, nDisp1T, fS1, cYes, unlG, bindok, bindex, bindno, noEx_ok, tb_bv, asDat_dat, asDat_wC, asDat_wI, asDat_bv, asDat_wR, asDat_wS, asDat_wN, pds_nil, pds_dat, pds_wI, pds_wC, pds_wR, pds_bv, asI_I, pAdd_I, pSub_I, pCmp_I, pNeg_I, List.map_cons, List.map_nil, List.length_cons, List.length_nil, List.replicate_succ, List.replicate_zero, List.cons_append, List.nil_append, List.getElem?_cons_zero, List.getElem?_cons_succ, List.getD_cons_zero, List.getD_cons_succ, List.set_cons_zero, List.set_cons_succ, Nat.reduceAdd, Nat.reduceSub, Nat.reduceLT, Nat.reduceLeDiff, Nat.zero_lt_succ, if_true, if_false, Bool.false_eq_true, decide_true, decide_false, Bool.not_true, Bool.not_false, Bool.true_and, Bool.and_true, reduceIte, reduceCtorEq, Bool.true_eq_false, Bool.false_eq_true, not_true_eq_false, not_false_eq_true, fits0, fits1, fits2, fits3, fits4, pLen_B, pLen_Cs, pLen_C, pGet_C0, pGet_C1, pGet_K0, pGet_K1, pGet_Cs0, pEq_I, pEq_C, pEq_Cs, pEq_bl, pIn_Cs, pIn_D, items_Cs, items_B, items_R]
    rfl
theorem D_cells_loop {b : Bd} (g : Good b) : g_cells (rho0 4 [wB b]) = .ok (.rt (wCs (allC b))) := by
  have a1 := g.h8
  have a2 := g.w8
  simp only [fnSem, rho0, outW_rt, outW_nx, gSeq, Vd.gNil, gDo, gRet, gSet, gOwn, gIf, gAsg, gFrz, gKill, gThenKill, gThenFrz, gApp, gExt, gEx, nLst, fOt, otw, f1, f2, fT, fAnd, fOr, fNot, fAndV, fOrV, fNotV, fIf, fCal, aNil, aCons, fTup, fSl, oNo, oSo, fChain, fV, fO, fC, iVal, iL, setF, setO, nG, tupG, consG, nilG, killAt, frzAt, fzS, nDisp1T, fS1, cYes, unlG, bindok, bindex, bindno, noEx_ok, tb_bv, asDat_dat, asDat_wC, asDat_wI, asDat_bv, asDat_wR, asDat_wS, asDat_wN, pds_nil, pds_dat, pds_wI, pds_wC, pds_wR, pds_bv, asI_I, pAdd_I, pSub_I, pCmp_I, pNeg_I, List.map_cons, List.map_nil, List.length_cons, List.length_nil, List.replicate_succ, List.replicate_zero, List.cons_append, List.nil_append, List.getElem?_cons_zero, List.getElem?_cons_succ, List.getD_cons_zero, List.getD_cons_succ, List.set_cons_zero, List.set_cons_succ, Nat.reduceAdd, Nat.reduceSub, Nat.reduceLT, Nat.reduceLeDiff, Nat.zero_lt_succ, if_true, if_false, Bool.false_eq_true, decide_true, decide_false, Bool.not_true, Bool.not_false, Bool.true_and, Bool.and_true, reduceIte, reduceCtorEq, Bool.true_eq_false, Bool.false_eq_true, not_true_eq_false, not_false_eq_true, fits0, fits1, fits2, fits3, fits4, pLen_B, pLen_Cs, pLen_C, pGet_C0, pGet_C1, pGet_K0, pGet_K1, pGet_Cs0, pEq_I, pEq_C, pEq_Cs, pEq_bl, pIn_Cs, pIn_D, items_Cs, items_B, items_R, g_cells, D_need_board g]
  rw [gFor_inv (fun k : Nat => wI (k : Nat)) (List.range b.length) (fun s : List C2 => [.fz (wB b), .ow (.L (s.map pC)), .un, .un]) (fun s i => s ++ rowC b i) (fun l s => s.length + 8 * l.length ≤ 64) []]
  · simp only [fnSem, rho0, outW_rt, outW_nx, gSeq, Vd.gNil, gDo, gRet, gSet, gOwn, gIf, gAsg, gFrz, gKill, gThenKill, gThenFrz, gApp, gExt, gEx, nLst, fOt, otw, f1, f2, fT, fAnd, fOr, fNot, fAndV, fOrV, fNotV, fIf, fCal, aNil, aCons, fTup, fSl, oNo, oSo, fChain, fV, fO, fC, iVal, iL, setF, setO, nG, tupG, consG, nilG, killAt, frzAt, fzS, nDisp1T, fS1, cYes, unlG, bindok, bindex, bindno, noEx_ok, tb_bv, asDat_dat, asDat_wC, asDat_wI, asDat_bv, asDat_wR, asDat_wS, asDat_wN, pds_nil, pds_dat, pds_wI, pds_wC, pds_wR, pds_bv, asI_I, pAdd_I, pSub_I, pCmp_I, pNeg_I, List.map_cons, List.map_nil, List.length_cons, List.length_nil, List.replicate_succ, List.replicate_zero, List.cons_append, List.nil_append, List.getElem?_cons_zero, List.getElem?_cons_succ, List.getD_cons_zero, List.getD_cons_succ, List.set_cons_zero, List.set_cons_succ, Nat.reduceAdd, Nat.reduceSub, Nat.reduceLT, Nat.reduceLeDiff, Nat.zero_lt_succ, if_true, if_false, Bool.false_eq_true, decide_true, decide_false, Bool.not_true, Bool.not_false, Bool.true_and, Bool.and_true, reduceIte, reduceCtorEq, Bool.true_eq_false, Bool.false_eq_true, not_true_eq_false, not_false_eq_true, fits0, fits1, fits2, fits3, fits4, pLen_B, pLen_Cs, pLen_C, pGet_C0, pGet_C1, pGet_K0, pGet_K1, pGet_Cs0, pEq_I, pEq_C, pEq_Cs, pEq_bl, pIn_Cs, pIn_D, items_Cs, items_B, items_R]
    rw [foldl_flat]
    rfl
  · simp only [fnSem, rho0, outW_rt, outW_nx, gSeq, Vd.gNil, gDo, gRet, gSet, gOwn, gIf, gAsg, gFrz, gKill, gThenKill, gThenFrz, gApp, gExt, gEx, nLst, fOt, otw, f1, f2, fT, fAnd, fOr, fNot, fAndV, fOrV, fNotV, fIf, fCal, aNil, aCons, fTup, fSl, oNo, oSo, fChain, fV, fO, fC, iVal, iL, setF, setO, nG, tupG, consG, nilG, killAt, frzAt, fzS, nDisp1T, fS1, cYes, unlG, bindok, bindex, bindno, noEx_ok, tb_bv, asDat_dat, asDat_wC, asDat_wI, asDat_bv, asDat_wR, asDat_wS, asDat_wN, pds_nil, pds_dat, pds_wI, pds_wC, pds_wR, pds_bv, asI_I, pAdd_I, pSub_I, pCmp_I, pNeg_I, List.map_cons, List.map_nil, List.length_cons, List.length_nil, List.replicate_succ, List.replicate_zero, List.cons_append, List.nil_append, List.getElem?_cons_zero, List.getElem?_cons_succ, List.getD_cons_zero, List.getD_cons_succ, List.set_cons_zero, List.set_cons_succ, Nat.reduceAdd, Nat.reduceSub, Nat.reduceLT, Nat.reduceLeDiff, Nat.zero_lt_succ, if_true, if_false, Bool.false_eq_true, decide_true, decide_false, Bool.not_true, Bool.not_false, Bool.true_and, Bool.and_true, reduceIte, reduceCtorEq, Bool.true_eq_false, Bool.false_eq_true, not_true_eq_false, not_false_eq_true, fits0, fits1, fits2, fits3, fits4, pLen_B, pLen_Cs, pLen_C, pGet_C0, pGet_C1, pGet_K0, pGet_K1, pGet_Cs0, pEq_I, pEq_C, pEq_Cs, pEq_bl, pIn_Cs, pIn_D, items_Cs, items_B, items_R]
    rw [rng1_I _ (by omega) (by omega), Int.toNat_natCast]
  · rfl
  · rw [List.length_nil, List.length_range]; omega
  · intro i l s hl
    refine ⟨?_, by rw [List.length_append, rowC_len]; simp only [List.length_cons] at hl; omega⟩
    have h2 : (s.map pC).length + ((rowC b i).map pC).length ≤ sizeLine := by
      rw [List.length_map, List.length_map, rowC_len]; simp only [List.length_cons] at hl; unfold sizeLine; omega
    simp only [fnSem, rho0, outW_rt, outW_nx, gSeq, Vd.gNil, gDo, gRet, gSet, gOwn, gIf, gAsg, gFrz, gKill, gThenKill, gThenFrz, gApp, gExt, gEx, nLst, fOt, otw, f1, f2, fT, fAnd, fOr, fNot, fAndV, fOrV, fNotV, fIf, fCal, aNil, aCons, fTup, fSl, oNo, oSo, fChain, fV, fO, fC, iVal, iL, setF, setO, nG, tupG, consG, nilG, killAt, frzAt, fzS, nDisp1T, fS1, cYes, unlG, bindok, bindex, bindno, noEx_ok, tb_bv, asDat_dat, asDat_wC, asDat_wI, asDat_bv, asDat_wR, asDat_wS, asDat_wN, pds_nil, pds_dat, pds_wI, pds_wC, pds_wR, pds_bv, asI_I, pAdd_I, pSub_I, pCmp_I, pNeg_I, List.map_cons, List.map_nil, List.length_cons, List.length_nil, List.replicate_succ, List.replicate_zero, List.cons_append, List.nil_append, List.getElem?_cons_zero, List.getElem?_cons_succ, List.getD_cons_zero, List.getD_cons_succ, List.set_cons_zero, List.set_cons_succ, Nat.reduceAdd, Nat.reduceSub, Nat.reduceLT, Nat.reduceLeDiff, Nat.zero_lt_succ, if_true, if_false, Bool.false_eq_true, decide_true, decide_false, Bool.not_true, Bool.not_false, Bool.true_and, Bool.and_true, reduceIte, reduceCtorEq, Bool.true_eq_false, Bool.false_eq_true, not_true_eq_false, not_false_eq_true, fits0, fits1, fits2, fits3, fits4, pLen_B, pLen_Cs, pLen_C, pGet_C0, pGet_C1, pGet_K0, pGet_K1, pGet_Cs0, pEq_I, pEq_C, pEq_Cs, pEq_bl, pIn_Cs, pIn_D, items_Cs, items_B, items_R, D_cells_row g i s, h2]
    rw [List.map_append]
theorem D_cells {b : Bd} (g : Good b) : F_cells [wB b] = .ok (wCs (allC b)) := by
  unfold F_cells fnSem
  rw [D_cells_loop g]; rfl
/-- cells beside -/
def stepsL (k : Int) : List C2 := if k = 8 then [(-1, -1), (-1, 0), (-1, 1), (0, -1), (0, 1), (1, -1), (1, 0), (1, 1)] else [(-1, 0), (0, -1), (0, 1), (1, 0)]
def near (b : Bd) (c : C2) (k : Int) : List C2 := ((stepsL k).map fun d => (c.1 + d.1, c.2 + d.2)).filter (ins b)
theorem foldl_keep {α β : Type} (f : α → β) (p : β → Bool) : ∀ (l : List α) (s : List β), l.foldl (fun s a => if p (f a) = true then s ++ [f a] else s) s = s ++ (l.map f).filter p
  | [], s => by simp
  | a :: l, s => by
    rw [List.foldl_cons, foldl_keep f p l]
    by_cases h : p (f a) = true <;> simp [h]
theorem stepsL_len (k : Int) : (stepsL k).length ≤ 8 := by unfold stepsL; split <;> simp
theorem D_near {b : Bd} (g : Good b) (c : C2) {k : Int} (hk : k = 4 ∨ k = 8) : F_near [wB b, wC c, wI k] = .ok (wCs (near b c k)) := by
  have hc : W.dat (pC c) = wC c := rfl
  have ht : ∀ (t : List W → Rho → R Rho) (ρ : Rho), tupG 2 t (wC c) ρ = t [wI c.1, wI c.2] ρ := fun t ρ => rfl
  simp only [fnSem, rho0, outW_rt, outW_nx, gSeq, Vd.gNil, gDo, gRet, gSet, gOwn, gIf, gAsg, gFrz, gKill, gThenKill, gThenFrz, gApp, gExt, gEx, nLst, fOt, otw, f1, f2, fT, fAnd, fOr, fNot, fAndV, fOrV, fNotV, fIf, fCal, aNil, aCons, fTup, fSl, oNo, oSo, fChain, fV, fO, fC, iVal, iL, setF, setO, nG, consG, nilG, killAt, frzAt, fzS, nDisp1T, fS1, cYes, unlG, bindok, bindex, bindno, noEx_ok, tb_bv, asDat_dat, asDat_wC, asDat_wI, asDat_bv, asDat_wR, asDat_wS, asDat_wN, pds_nil, pds_dat, pds_wI, pds_wC, pds_wR, pds_bv, asI_I, pAdd_I, pSub_I, pCmp_I, pNeg_I, List.map_cons, List.map_nil, List.length_cons, List.length_nil, List.replicate_succ, List.replicate_zero, List.cons_append, List.nil_append, List.getElem?_cons_zero, List.getElem?_cons_succ, List.getD_cons_zero, List.getD_cons_succ, List.set_cons_zero, List.set_cons_succ, Nat.reduceAdd, Nat.reduceSub, Nat.reduceLT, Nat.reduceLeDiff, Nat.zero_lt_succ, if_true, if_false, Bool.false_eq_true, decide_true, decide_false, Bool.not_true, Bool.not_false, Bool.true_and, Bool.and_true, reduceIte, reduceCtorEq, Bool.true_eq_false, Bool.false_eq_true, not_true_eq_false, not_false_eq_true, fits0, fits1, fits2, fits3, fits4, pLen_B, pLen_Cs, pLen_C, pGet_C0, pGet_C1, pGet_K0, pGet_K1, pGet_Cs0, pEq_I, pEq_C, pEq_Cs, pEq_bl, pIn_Cs, pIn_D, items_Cs, items_B, items_R, F_near, g_near, ht]
  rw [gFor_inv (fun d : C2 => .kdat (pC d)) (stepsL k) (fun s : List C2 => [.fz (wB b), .fz (wC c), .fz (wI k), .fz (wI c.1), .fz (wI c.2), .ow (.L (s.map pC)), .un]) (fun s d => if ins b (c.1 + d.1, c.2 + d.2) = true then s ++ [(c.1 + d.1, c.2 + d.2)] else s) (fun l s => s.length + l.length ≤ 8) []]
  · simp only [fnSem, rho0, outW_rt, outW_nx, gSeq, Vd.gNil, gDo, gRet, gSet, gOwn, gIf, gAsg, gFrz, gKill, gThenKill, gThenFrz, gApp, gExt, gEx, nLst, fOt, otw, f1, f2, fT, fAnd, fOr, fNot, fAndV, fOrV, fNotV, fIf, fCal, aNil, aCons, fTup, fSl, oNo, oSo, fChain, fV, fO, fC, iVal, iL, setF, setO, nG, tupG, consG, nilG, killAt, frzAt, fzS, nDisp1T, fS1, cYes, unlG, bindok, bindex, bindno, noEx_ok, tb_bv, asDat_dat, asDat_wC, asDat_wI, asDat_bv, asDat_wR, asDat_wS, asDat_wN, pds_nil, pds_dat, pds_wI, pds_wC, pds_wR, pds_bv, asI_I, pAdd_I, pSub_I, pCmp_I, pNeg_I, List.map_cons, List.map_nil, List.length_cons, List.length_nil, List.replicate_succ, List.replicate_zero, List.cons_append, List.nil_append, List.getElem?_cons_zero, List.getElem?_cons_succ, List.getD_cons_zero, List.getD_cons_succ, List.set_cons_zero, List.set_cons_succ, Nat.reduceAdd, Nat.reduceSub, Nat.reduceLT, Nat.reduceLeDiff, Nat.zero_lt_succ, if_true, if_false, Bool.false_eq_true, decide_true, decide_false, Bool.not_true, Bool.not_false, Bool.true_and, Bool.and_true, reduceIte, reduceCtorEq, Bool.true_eq_false, Bool.false_eq_true, not_true_eq_false, not_false_eq_true, fits0, fits1, fits2, fits3, fits4, pLen_B, pLen_Cs, pLen_C, pGet_C0, pGet_C1, pGet_K0, pGet_K1, pGet_Cs0, pEq_I, pEq_C, pEq_Cs, pEq_bl, pIn_Cs, pIn_D, items_Cs, items_B, items_R]
    rw [foldl_keep (fun d : C2 => (c.1 + d.1, c.2 + d.2)) (ins b)]
    rfl
  · simp only [fnSem, rho0, outW_rt, outW_nx, gSeq, Vd.gNil, gDo, gRet, gSet, gOwn, gIf, gAsg, gFrz, gKill, gThenKill, gThenFrz, gApp, gExt, gEx, nLst, fOt, otw, f1, f2, fT, fAnd, fOr, fNot, fAndV, fOrV, fNotV, fIf, fCal, aNil, aCons, fTup, fSl, oNo, oSo, fChain, fV, fO, fC, iVal, iL, setF, setO, nG, tupG, consG, nilG, killAt, frzAt, fzS, nDisp1T, fS1, cYes, unlG, bindok, bindex, bindno, noEx_ok, tb_bv, asDat_dat, asDat_wC, asDat_wI, asDat_bv, asDat_wR, asDat_wS, asDat_wN, pds_nil, pds_dat, pds_wI, pds_wC, pds_wR, pds_bv, asI_I, pAdd_I, pSub_I, pCmp_I, pNeg_I, List.map_cons, List.map_nil, List.length_cons, List.length_nil, List.replicate_succ, List.replicate_zero, List.cons_append, List.nil_append, List.getElem?_cons_zero, List.getElem?_cons_succ, List.getD_cons_zero, List.getD_cons_succ, List.set_cons_zero, List.set_cons_succ, Nat.reduceAdd, Nat.reduceSub, Nat.reduceLT, Nat.reduceLeDiff, Nat.zero_lt_succ, if_true, if_false, Bool.false_eq_true, decide_true, decide_false, Bool.not_true, Bool.not_false, Bool.true_and, Bool.and_true, reduceIte, reduceCtorEq, Bool.true_eq_false, Bool.false_eq_true, not_true_eq_false, not_false_eq_true, fits0, fits1, fits2, fits3, fits4, pLen_B, pLen_Cs, pLen_C, pGet_C0, pGet_C1, pGet_K0, pGet_K1, pGet_Cs0, pEq_I, pEq_C, pEq_Cs, pEq_bl, pIn_Cs, pIn_D, items_Cs, items_B, items_R]
    rcases hk with rfl | rfl
    · rfl
    · rfl
  · rfl
  · have := stepsL_len k; simpa using this
  · intro d l s hl
    simp only [List.length_cons] at hl
    refine ⟨?_, by split <;> (try rw [List.length_append, List.length_singleton]) <;> omega⟩
    have k0 : pGet (.kdat (pC d)) (wI 0) = .ok (wI d.1) := rfl
    have k1 : pGet (.kdat (pC d)) (wI 1) = .ok (wI d.2) := rfl
    have hs : (s.map pC).length < sizeLine := by rw [List.length_map]; unfold sizeLine; omega
    simp only [fnSem, rho0, outW_rt, outW_nx, gSeq, Vd.gNil, gDo, gRet, gSet, gOwn, gIf, gAsg, gFrz, gKill, gThenKill, gThenFrz, gApp, gExt, gEx, nLst, fOt, otw, f1, f2, fT, fAnd, fOr, fNot, fAndV, fOrV, fNotV, fIf, fCal, aNil, aCons, fTup, fSl, oNo, oSo, fChain, fV, fO, fC, iVal, iL, setF, setO, nG, tupG, consG, nilG, killAt, frzAt, fzS, nDisp1T, fS1, cYes, unlG, bindok, bindex, bindno, noEx_ok, tb_bv, asDat_dat, asDat_wC, asDat_wI, asDat_bv, asDat_wR, asDat_wS, asDat_wN, pds_nil, pds_dat, pds_wI, pds_wC, pds_wR, pds_bv, asI_I, pAdd_I, pSub_I, pCmp_I, pNeg_I, List.map_cons, List.map_nil, List.length_cons, List.length_nil, List.replicate_succ, List.replicate_zero, List.cons_append, List.nil_append, List.getElem?_cons_zero, List.getElem?_cons_succ, List.getD_cons_zero, List.getD_cons_succ, List.set_cons_zero, List.set_cons_succ, Nat.reduceAdd, Nat.reduceSub, Nat.reduceLT, Nat.reduceLeDiff, Nat.zero_lt_succ, if_true, if_false, Bool.false_eq_true, decide_true, decide_false, Bool.not_true, Bool.not_false, Bool.true_and, Bool.and_true, reduceIte, reduceCtorEq, Bool.true_eq_false, Bool.false_eq_true, not_true_eq_false, not_false_eq_true, fits0, fits1, fits2, fits3, fits4, pLen_B, pLen_Cs, pLen_C, pGet_C0, pGet_C1, pGet_K0, pGet_K1, pGet_Cs0, pEq_I, pEq_C, pEq_Cs, pEq_bl, pIn_Cs, pIn_D, items_Cs, items_B, items_R, k0, k1, g.get0, g.len0]
    unfold ins
    by_cases c1 : 0 ≤ c.1 + d.1
    · by_cases c2 : c.1 + d.1 < b.length
      · by_cases c3 : 0 ≤ c.2 + d.2
        · by_cases c4 : c.2 + d.2 < wd b
          · simp only [fnSem, rho0, outW_rt, outW_nx, gSeq, Vd.gNil, gDo, gRet, gSet, gOwn, gIf, gAsg, gFrz, gKill, gThenKill, gThenFrz, gApp, gExt, gEx, nLst, fOt, otw, f1, f2, fT, fAnd, fOr, fNot, fAndV, fOrV, fNotV, fIf, fCal, aNil, aCons, fTup, fSl, oNo, oSo, fChain, fV, fO, fC, iVal, iL, setF, setO, nG, tupG, consG, nilG, killAt, frzAt, fzS, nDisp1T, fS1, cYes, unlG, bindok, bindex, bindno, noEx_ok, tb_bv, asDat_dat, asDat_wC, asDat_wI, asDat_bv, asDat_wR, asDat_wS, asDat_wN, pds_nil, pds_dat, pds_wI, pds_wC, pds_wR, pds_bv, asI_I, pAdd_I, pSub_I, pCmp_I, pNeg_I, List.map_cons, List.map_nil, List.length_cons, List.length_nil, List.replicate_succ, List.replicate_zero, List.cons_append, List.nil_append, List.getElem?_cons_zero, List.getElem?_cons_succ, List.getD_cons_zero, List.getD_cons_succ, List.set_cons_zero, List.set_cons_succ, Nat.reduceAdd, Nat.reduceSub, Nat.reduceLT, Nat.reduceLeDiff, Nat.zero_lt_succ, if_true, if_false, Bool.false_eq_true, decide_true, decide_false, Bool.not_true, Bool.not_false, Bool.true_and, Bool.and_true, reduceIte, reduceCtorEq, Bool.true_eq_false, Bool.false_eq_true, not_true_eq_false, not_false_eq_true, fits0, fits1, fits2, fits3, fits4, pLen_B, pLen_Cs, pLen_C, pGet_C0, pGet_C1, pGet_K0, pGet_K1, pGet_Cs0, pEq_I, pEq_C, pEq_Cs, pEq_bl, pIn_Cs, pIn_D, items_Cs, items_B, items_R, c1, c2, c3, c4, hs]
            simp only [List.map_append, List.map_cons, List.map_nil, pC]
          · simp only [fnSem, rho0, outW_rt, outW_nx, gSeq, Vd.gNil, gDo, gRet, gSet, gOwn, gIf, gAsg, gFrz, gKill, gThenKill, gThenFrz, gApp, gExt, gEx, nLst, fOt, otw, f1, f2, fT, fAnd, fOr, fNot, fAndV, fOrV, fNotV, fIf, fCal, aNil, aCons, fTup, fSl, oNo, oSo, fChain, fV, fO, fC, iVal, iL, setF, setO, nG, tupG, consG, nilG, killAt, frzAt, fzS, nDisp1T, fS1, cYes, unlG, bindok, bindex, bindno, noEx_ok, tb_bv, asDat_dat, asDat_wC, asDat_wI, asDat_bv, asDat_wR, asDat_wS, asDat_wN, pds_nil, pds_dat, pds_wI, pds_wC, pds_wR, pds_bv, asI_I, pAdd_I, pSub_I, pCmp_I, pNeg_I, List.map_cons, List.map_nil, List.length_cons, List.length_nil, List.replicate_succ, List.replicate_zero, List.cons_append, List.nil_append, List.getElem?_cons_zero, List.getElem?_cons_succ, List.getD_cons_zero, List.getD_cons_succ, List.set_cons_zero, List.set_cons_succ, Nat.reduceAdd, Nat.reduceSub, Nat.reduceLT, Nat.reduceLeDiff, Nat.zero_lt_succ, if_true, if_false, Bool.false_eq_true, decide_true, decide_false, Bool.not_true, Bool.not_false, Bool.true_and, Bool.and_true, reduceIte, reduceCtorEq, Bool.true_eq_false, Bool.false_eq_true, not_true_eq_false, not_false_eq_true, fits0, fits1, fits2, fits3, fits4, pLen_B, pLen_Cs, pLen_C, pGet_C0, pGet_C1, pGet_K0, pGet_K1, pGet_Cs0, pEq_I, pEq_C, pEq_Cs, pEq_bl, pIn_Cs, pIn_D, items_Cs, items_B, items_R, c1, c2, c3, c4, Bool.and_false]
        · simp only [fnSem, rho0, outW_rt, outW_nx, gSeq, Vd.gNil, gDo, gRet, gSet, gOwn, gIf, gAsg, gFrz, gKill, gThenKill, gThenFrz, gApp, gExt, gEx, nLst, fOt, otw, f1, f2, fT, fAnd, fOr, fNot, fAndV, fOrV, fNotV, fIf, fCal, aNil, aCons, fTup, fSl, oNo, oSo, fChain, fV, fO, fC, iVal, iL, setF, setO, nG, tupG, consG, nilG, killAt, frzAt, fzS, nDisp1T, fS1, cYes, unlG, bindok, bindex, bindno, noEx_ok, tb_bv, asDat_dat, asDat_wC, asDat_wI, asDat_bv, asDat_wR, asDat_wS, asDat_wN, pds_nil, pds_dat, pds_wI, pds_wC, pds_wR, pds_bv, asI_I, pAdd_I, pSub_I, pCmp_I, pNeg_I, List.map_cons, List.map_nil, List.length_cons, List.length_nil, List.replicate_succ, List.replicate_zero, List.cons_append, List.nil_append, List.getElem?_cons_zero, List.getElem?_cons_succ, List.getD_cons_zero, List.getD_cons_succ, List.set_cons_zero, List.set_cons_succ, Nat.reduceAdd, Nat.reduceSub, Nat.reduceLT, Nat.reduceLeDiff, Nat.zero_lt_succ, if_true, if_false, Bool.false_eq_true, decide_true, decide_false, Bool.not_true, Bool.not_false, Bool.true_and, Bool.and_true, reduceIte, reduceCtorEq, Bool.true_eq_false, Bool.false_eq_true, not_true_eq_false, not_false_eq_true, fits0, fits1, fits2, fits3, fits4, pLen_B, pLen_Cs, pLen_C, pGet_C0, pGet_C1, pGet_K0, pGet_K1, pGet_Cs0, pEq_I, pEq_C, pEq_Cs, pEq_bl, pIn_Cs, pIn_D, items_Cs, items_B, items_R, c1, c2, c3, Bool.and_false, Bool.false_and]
      · simp only [fnSem, rho0, outW_rt, outW_nx, gSeq, Vd.gNil, gDo, gRet, gSet, gOwn, gIf, gAsg, gFrz, gKill, gThenKill, gThenFrz, gApp, gExt, gEx, nLst, fOt, otw, f1, f2, fT, fAnd, fOr, fNot, fAndV, fOrV, fNotV, fIf, fCal, aNil, aCons, fTup, fSl, oNo, oSo, fChain, fV, fO, fC, iVal, iL, setF, setO, nG, tupG, consG, nilG, killAt, frzAt, fzS, nDisp1T, fS1, cYes, unlG, bindok, bindex, bindno, noEx_ok, tb_bv, asDat_dat, asDat_wC, asDat_wI, asDat_bv, asDat_wR, asDat_wS, asDat_wN, pds_nil, pds_dat, pds_wI, pds_wC, pds_wR, pds_bv, asI_I, pAdd_I, pSub_I, pCmp_I, pNeg_I, List.map_cons, List.map_nil, List.length_cons, List.length_nil, List.replicate_succ, List.replicate_zero, List.cons_append, List.nil_append, List.getElem?_cons_zero, List.getElem?_cons_succ, List.getD_cons_zero, List.getD_cons_succ, List.set_cons_zero, List.set_cons_succ, Nat.reduceAdd, Nat.reduceSub, Nat.reduceLT, Nat.reduceLeDiff, Nat.zero_lt_succ, if_true, if_false, Bool.false_eq_true, decide_true, decide_false, Bool.not_true, Bool.not_false, Bool.true_and, Bool.and_true, reduceIte, reduceCtorEq, Bool.true_eq_false, Bool.false_eq_true, not_true_eq_false, not_false_eq_true, fits0, fits1, fits2, fits3, fits4, pLen_B, pLen_Cs, pLen_C, pGet_C0, pGet_C1, pGet_K0, pGet_K1, pGet_Cs0, pEq_I, pEq_C, pEq_Cs, pEq_bl, pIn_Cs, pIn_D, items_Cs, items_B, items_R, c1, c2, Bool.and_false, Bool.false_and]
    · simp only [fnSem, rho0, outW_rt, outW_nx, gSeq, Vd.gNil, gDo, gRet, gSet, gOwn, gIf, gAsg, gFrz, gKill, gThenKill, gThenFrz, gApp, gExt, gEx, nLst, fOt, otw, f1, f2, fT, fAnd, fOr, fNot, fAndV, fOrV, fNotV, fIf, fCal, aNil, aCons, fTup, fSl, oNo, oSo, fChain, fV, fO, fC, iVal, iL, setF, setO, nG, tupG, consG, nilG, killAt, frzAt, fzS, nDisp1T, fS1, cYes, unlG, bindok, bindex, bindno, noEx_ok, tb_bv, asDat_dat, asDat_wC, asDat_wI, asDat_bv, asDat_wR, asDat_wS, asDat_wN, pds_nil, pds_dat, pds_wI, pds_wC, pds_wR, pds_bv, asI_I, pAdd_I, pSub_I, pCmp_I, pNeg_I, List.map_cons, List.map_nil, List.length_cons, List.length_nil, List.replicate_succ, List.replicate_zero, List.cons_append, List.nil_append, List.getElem?_cons_zero, List.getElem?_cons_succ, List.getD_cons_zero, List.getD_cons_succ, List.set_cons_zero, List.set_cons_succ, Nat.reduceAdd, Nat.reduceSub, Nat.reduceLT, Nat.reduceLeDiff, Nat.zero_lt_succ, if_true, if_false, Bool.false_eq_true, decide_true, decide_false, Bool.not_true, Bool.not_false, Bool.true_and, Bool.and_true, reduceIte, reduceCtorEq, Bool.true_eq_false, Bool.false_eq_true, not_true_eq_false, not_false_eq_true, fits0, fits1, fits2, fits3, fits4, pLen_B, pLen_Cs, pLen_C, pGet_C0, pGet_C1, pGet_K0, pGet_K1, pGet_Cs0, pEq_I, pEq_C, pEq_Cs, pEq_bl, pIn_Cs, pIn_D, items_Cs, items_B, items_R, c1, Bool.and_false, Bool.false_and]
end Cp




/-! Rf1: what is no board. -/
namespace Cp

open L2 PyProof.Rows PySem PySem.Spec Vd

theorem forS_retI {α β : Type} (enc : α → W) (st : β → Rho) (step : β → α → W ⊕ β) {t : W → Rho → R Rho} {g : Rho → R Out} (Inv : List α → β → Prop)
    (h : ∀ a r s, Inv (a :: r) s → ((noEx (t (enc a) (st s))).bind fun ρ1 => g ρ1) = .ok (outE st (step s a)) ∧ ∀ s', step s a = .inr s' → Inv r s') : ∀ (l : List α) (s : β), Inv l s → forS t g (l.map enc) (st s) = .ok (outE st (foldE step l s))
  | [], s, _ => rfl
  | a :: l, s, hi => by
    obtain ⟨h1, h2⟩ := h a l s hi
    show ((noEx (t (enc a) (st s))).bind fun ρ1 => (g ρ1).bind _) = _
    cases z : noEx (t (enc a) (st s)) with
    | no => rw [z] at h1; cases h1
    | ex c => rw [z] at h1; cases h1
    | ok ρ1 =>
      rw [z] at h1
      have h1 : g ρ1 = .ok (outE st (step s a)) := h1
      rw [bindok, h1]
      cases y : step s a with
      | inl w => simp only [foldE, y]; rfl
      | inr s' =>
        simp only [foldE, y]
        exact forS_retI enc st step Inv h l s' (h2 s' y)
theorem gFor_retI {α β : Type} {f : Rho → R (List W)} {t : W → Rho → R Rho} {g : Rho → R Out} {ρ : Rho} (enc : α → W) (l : List α) (st : β → Rho) (step : β → α → W ⊕ β) (Inv : List α → β → Prop) (s0 : β) (hf : f ρ = .ok (l.map enc)) (hρ : ρ = st s0) (h0 : Inv l s0)
    (h : ∀ a r s, Inv (a :: r) s → ((noEx (t (enc a) (st s))).bind fun ρ1 => g ρ1) = .ok (outE st (step s a)) ∧ ∀ s', step s a = .inr s' → Inv r s') : gFor f t g ρ = .ok (outE st (foldE step l s0)) := by
  unfold gFor; rw [hf, hρ]; exact forS_retI enc st step Inv h l s0 h0
theorem foldE_all {α : Type} (p : α → Bool) (w : W) : ∀ l : List α, foldE (fun (_ : Unit) a => if p a = true then .inr () else .inl w) l () = if l.all p = true then .inr () else .inl w
  | [] => rfl
  | a :: l => by
    unfold foldE
    rw [List.all_cons]
    by_cases c : p a = true
    · simp only [c, if_true, Bool.true_and]; exact foldE_all p w l
    · simp [c]
def lettersC : List Nat := [97, 98, 99, 100, 101, 102]
def rowOk (n : Nat) : Pd → Bool
  | .str x => decide (1 ≤ x.length) && (decide (x.length ≤ 8) && (decide (x.length = n) && x.cps.toList.all fun c => decide (c ∈ lettersC)))
  | _ => false
def lenD : Pd → Nat
  | .str x => x.length
  | _ => 0
def isStrD : Pd → Bool
  | .str _ => true
  | _ => false
def isBd (ds : List Pd) : Bool := decide (1 ≤ ds.length) && (decide (ds.length ≤ 8) && ds.all (rowOk (lenD (ds.headD .none))))
/-- no dict, texts not too long -/
def plainD : Pd → Prop
  | .dict _ => False
  | .str x => x.length ≤ 1000
  | _ => True
theorem str_S (x : Str) : x = S x.cps.toList := by cases x; simp [S]
theorem isi_tup {d : Pd} (hp : plainD d) (h : ∀ ds, d ≠ .tuple ds) : pIsi "tuple" (.dat d) = .ok (bv false) := by
  cases d with
  | dict _ => exact hp.elim
  | tuple ds => exact (h ds rfl).elim
  | none => rfl
  | bool b => rfl
  | int i => rfl
  | str x => rfl
  | list ds => rfl
theorem isi_str {d : Pd} (hp : plainD d) : pIsi "str" (.dat d) = .ok (bv (isStrD d)) := by
  cases d with
  | dict _ => exact hp.elim
  | none => rfl
  | bool b => rfl
  | int i => rfl
  | str x => rfl
  | list ds => rfl
  | tuple ds => rfl
theorem D_is_board_no {d : Pd} (hp : plainD d) (h : ∀ ds, d ≠ .tuple ds) : F_is_board [.dat d] = .ok (bv false) := by
  simp only [fnSem, rho0, outW_rt, outW_nx, gSeq, Vd.gNil, gDo, gRet, gSet, gOwn, gIf, gAsg, gFrz, gKill, gThenKill, gThenFrz, gApp, gExt, gEx, nLst, fOt, otw, f1, f2, fT, fAnd, fOr, fNot, fAndV, fOrV, fNotV, fIf, fCal, aNil, aCons, fTup, fSl, oNo, oSo, fChain, fV, fO, fC, iVal, iL, setF, setO, nG, tupG, consG, nilG, killAt, frzAt, fzS, nDisp1T, fS1, cYes, unlG, bindok, bindex, bindno, noEx_ok, tb_bv, asDat_dat, asDat_wC, asDat_wI, asDat_bv, asDat_wR, asDat_wS, asDat_wN, pds_nil, pds_dat, pds_wI, pds_wC, pds_wR, pds_bv, asI_I, pAdd_I, pSub_I, pCmp_I, pNeg_I, List.map_cons, List.map_nil, List.length_cons, List.length_nil, List.replicate_succ, List.replicate_zero, List.cons_append, List.nil_append, List.getElem?_cons_zero, List.getElem?_cons_succ, List.getD_cons_zero, List.getD_cons_succ, List.set_cons_zero, List.set_cons_succ, Nat.reduceAdd, Nat.reduceSub, Nat.reduceLT, Nat.reduceLeDiff, Nat.zero_lt_succ, if_true, if_false, Bool.false_eq_true, decide_true, decide_false, Bool.not_true, Bool.not_false, Bool.true_and, Bool.and_true, reduceIte, reduceCtorEq, Bool.true_eq_false, Bool.false_eq_true, not_true_eq_false, not_false_eq_true, fits0, fits1, fits2, fits3, fits4, pLen_B, pLen_Cs, pLen_C, pGet_C0, pGet_C1, pGet_K0, pGet_K1, pGet_Cs0, pEq_I, pEq_C, pEq_Cs, pEq_bl, pIn_Cs, pIn_D, items_Cs, items_B, items_R, F_is_board, g_is_board, isi_tup hp h, wbv_eq]
theorem D_is_boardG {ds : List Pd} (hp : ∀ d ∈ ds, plainD d) (hl : ds.length ≤ 1000) : F_is_board [.dat (.tuple ds)] = .ok (bv (isBd ds)) := by
  have h1 : pIsi "tuple" (.dat (.tuple ds)) = .ok (bv true) := rfl
  have hM : c_MOST = wI 8 := rfl
  have hL : c_LETTERS = wS [97, 98, 99, 100, 101, 102] := rfl
  have hlen : pLen [.dat (.tuple ds)] = .ok (wI ds.length) := by simp [pLen]
  unfold isBd
  by_cases c1 : 1 ≤ ds.length
  · by_cases c2 : ds.length ≤ 8
    · have e1 : decide ((1 : Int) ≤ (ds.length : Int)) = true := decide_eq_true (by omega)
      have e2 : decide ((ds.length : Int) ≤ 8) = true := decide_eq_true (by omega)
      simp only [fnSem, rho0, outW_rt, outW_nx, gSeq, Vd.gNil, gDo, gRet, gSet, gOwn, gIf, gAsg, gFrz, gKill, gThenKill, gThenFrz, gApp, gExt, gEx, nLst, fOt, otw, f1, f2, fT, fAnd, fOr, fNot, fAndV, fOrV, fNotV, fIf, fCal, aNil, aCons, fTup, fSl, oNo, oSo, fChain, fV, fO, fC, iVal, iL, setF, setO, nG, tupG, consG, nilG, killAt, frzAt, fzS, nDisp1T, fS1, cYes, unlG, bindok, bindex, bindno, noEx_ok, tb_bv, asDat_dat, asDat_wC, asDat_wI, asDat_bv, asDat_wR, asDat_wS, asDat_wN, pds_nil, pds_dat, pds_wI, pds_wC, pds_wR, pds_bv, asI_I, pAdd_I, pSub_I, pCmp_I, pNeg_I, List.map_cons, List.map_nil, List.length_cons, List.length_nil, List.replicate_succ, List.replicate_zero, List.cons_append, List.nil_append, List.getElem?_cons_zero, List.getElem?_cons_succ, List.getD_cons_zero, List.getD_cons_succ, List.set_cons_zero, List.set_cons_succ, Nat.reduceAdd, Nat.reduceSub, Nat.reduceLT, Nat.reduceLeDiff, Nat.zero_lt_succ, if_true, if_false, Bool.false_eq_true, decide_true, decide_false, Bool.not_true, Bool.not_false, Bool.true_and, Bool.and_true, reduceIte, reduceCtorEq, Bool.true_eq_false, Bool.false_eq_true, not_true_eq_false, not_false_eq_true, fits0, fits1, fits2, fits3, fits4, pLen_B, pLen_Cs, pLen_C, pGet_C0, pGet_C1, pGet_K0, pGet_K1, pGet_Cs0, pEq_I, pEq_C, pEq_Cs, pEq_bl, pIn_Cs, pIn_D, items_Cs, items_B, items_R, F_is_board, g_is_board, h1, hM, hlen, e1, e2]
      rw [gFor_retI W.dat ds (fun _ : Unit => [.fz (.dat (.tuple ds)), .un, .un]) (fun _ d => if rowOk (lenD (ds.headD .none)) d = true then .inr () else .inl (bv false))
        (fun l _ => (∀ x ∈ l, x ∈ ds) ∧ (l = ds ∨ isStrD (ds.headD .none) = true)) ()]
      rotate_left
      · simp only [fnSem, rho0, outW_rt, outW_nx, gSeq, Vd.gNil, gDo, gRet, gSet, gOwn, gIf, gAsg, gFrz, gKill, gThenKill, gThenFrz, gApp, gExt, gEx, nLst, fOt, otw, f1, f2, fT, fAnd, fOr, fNot, fAndV, fOrV, fNotV, fIf, fCal, aNil, aCons, fTup, fSl, oNo, oSo, fChain, fV, fO, fC, iVal, iL, setF, setO, nG, tupG, consG, nilG, killAt, frzAt, fzS, nDisp1T, fS1, cYes, unlG, bindok, bindex, bindno, noEx_ok, tb_bv, asDat_dat, asDat_wC, asDat_wI, asDat_bv, asDat_wR, asDat_wS, asDat_wN, pds_nil, pds_dat, pds_wI, pds_wC, pds_wR, pds_bv, asI_I, pAdd_I, pSub_I, pCmp_I, pNeg_I, List.map_cons, List.map_nil, List.length_cons, List.length_nil, List.replicate_succ, List.replicate_zero, List.cons_append, List.nil_append, List.getElem?_cons_zero, List.getElem?_cons_succ, List.getD_cons_zero, List.getD_cons_succ, List.set_cons_zero, List.set_cons_succ, Nat.reduceAdd, Nat.reduceSub, Nat.reduceLT, Nat.reduceLeDiff, Nat.zero_lt_succ, if_true, if_false, Bool.false_eq_true, decide_true, decide_false, Bool.not_true, Bool.not_false, Bool.true_and, Bool.and_true, reduceIte, reduceCtorEq, Bool.true_eq_false, Bool.false_eq_true, not_true_eq_false, not_false_eq_true, fits0, fits1, fits2, fits3, fits4, pLen_B, pLen_Cs, pLen_C, pGet_C0, pGet_C1, pGet_K0, pGet_K1, pGet_Cs0, pEq_I, pEq_C, pEq_Cs, pEq_bl, pIn_Cs, pIn_D, items_Cs, items_B, items_R]
        rfl
      · rfl
      · exact ⟨fun x h => h, .inl rfl⟩
      · intro d r s ⟨i1, i2⟩
        have hd := hp d (i1 d List.mem_cons_self)
        have hrest : ∀ s', (if rowOk (lenD (ds.headD .none)) d = true then (.inr () : W ⊕ Unit) else .inl (bv false)) = .inr s' → (∀ x ∈ r, x ∈ ds) ∧ (r = ds ∨ isStrD (ds.headD .none) = true) := fun s' e => by
          refine ⟨fun x hx => i1 x (List.mem_cons_of_mem _ hx), .inr ?_⟩
          rcases i2 with q | q
          · by_cases w : rowOk (lenD (ds.headD .none)) d = true
            · rw [← q]
              cases d with
              | str x => rfl
              | none => cases w
              | bool b => cases w
              | int i => cases w
              | list l => cases w
              | tuple l => cases w
              | dict l => cases w
            · rw [if_neg w] at e; cases e
          · exact q
        refine ⟨?_, hrest⟩
        by_cases hs : isStrD d = true
        · cases d with
          | str x =>
            have hx : x.length ≤ 1000 := hd
            -- the first row is a text
            obtain ⟨y, t, eds, hy⟩ : ∃ y t, ds = .str y :: t ∧ y.length ≤ 1000 := by
              cases hds : ds with
              | nil => rw [hds] at c1; simp at c1
              | cons d0 t =>
                have h0 := hp d0 (by rw [hds]; exact List.mem_cons_self)
                rcases i2 with q | q
                · rw [hds] at q
                  injection q with q1 q2
                  subst q1
                  exact ⟨x, t, rfl, hx⟩
                · rw [hds] at q
                  cases d0 with
                  | str y => exact ⟨y, t, rfl, h0⟩
                  | none => cases q
                  | bool b => cases q
                  | int i => cases q
                  | list l => cases q
                  | tuple l => cases q
                  | dict l => cases q
            have g0 : pGet (.dat (.tuple ds)) (wI 0) = .ok (.dat (.str y)) := by
              show optW .dat (atI ds 0) = _
              rw [eds, atI_zero]; rfl
            have ex := str_S x
            have ey := str_S y
            have lx : pLen [.dat (.str x)] = .ok (wI x.length) := by rw [ex]; rw [show W.dat (.str (S x.cps.toList)) = wR x.cps.toList from rfl, pLen_R _ (by rw [ex, Slen] at hx; unfold sizeLine; omega), Slen]
            have ly : pLen [.dat (.str y)] = .ok (wI y.length) := by rw [ey]; rw [show W.dat (.str (S y.cps.toList)) = wR y.cps.toList from rfl, pLen_R _ (by rw [ey, Slen] at hy; unfold sizeLine; omega), Slen]
            have hn : lenD (ds.headD .none) = y.length := by rw [eds]; rfl
            have h2 : pIsi "str" (.dat (.str x)) = .ok (bv true) := rfl
            rw [hn]
            unfold rowOk
            by_cases d1 : 1 ≤ x.length
            · have d1' : decide ((1 : Int) ≤ (x.length : Int)) = true := decide_eq_true (by omega)
              by_cases d2 : x.length ≤ 8
              · have d2' : decide ((x.length : Int) ≤ 8) = true := decide_eq_true (by omega)
                by_cases d3 : x.length = y.length
                · have d3' : (¬ (x.length : Int) = (y.length : Int)) = False := by simp; omega
                  have hlc : (nLc (iVal (fV 1)) [2] (nG 2) cYes (f2 (pInW false) (fO 2) (fC (wS [97, 98, 99, 100, 101, 102])))) [.fz (.dat (.tuple ds)), .fz (.dat (.str x)), .un] = .ok (.L (x.cps.toList.map fun c => .bool (decide (c ∈ lettersC)))) := by
                    rw [nLc_all (fun c => wS [c]) x.cps.toList (fun c => .bool (decide (c ∈ lettersC)))]
                    · simp only [fnSem, rho0, outW_rt, outW_nx, gSeq, Vd.gNil, gDo, gRet, gSet, gOwn, gIf, gAsg, gFrz, gKill, gThenKill, gThenFrz, gApp, gExt, gEx, nLst, fOt, otw, f1, f2, fT, fAnd, fOr, fNot, fAndV, fOrV, fNotV, fIf, fCal, aNil, aCons, fTup, fSl, oNo, oSo, fChain, fV, fO, fC, iVal, iL, setF, setO, nG, tupG, consG, nilG, killAt, frzAt, fzS, nDisp1T, fS1, cYes, unlG, bindok, bindex, bindno, noEx_ok, tb_bv, asDat_dat, asDat_wC, asDat_wI, asDat_bv, asDat_wR, asDat_wS, asDat_wN, pds_nil, pds_dat, pds_wI, pds_wC, pds_wR, pds_bv, asI_I, pAdd_I, pSub_I, pCmp_I, pNeg_I, List.map_cons, List.map_nil, List.length_cons, List.length_nil, List.replicate_succ, List.replicate_zero, List.cons_append, List.nil_append, List.getElem?_cons_zero, List.getElem?_cons_succ, List.getD_cons_zero, List.getD_cons_succ, List.set_cons_zero, List.set_cons_succ, Nat.reduceAdd, Nat.reduceSub, Nat.reduceLT, Nat.reduceLeDiff, Nat.zero_lt_succ, if_true, if_false, Bool.false_eq_true, decide_true, decide_false, Bool.not_true, Bool.not_false, Bool.true_and, Bool.and_true, reduceIte, reduceCtorEq, Bool.true_eq_false, Bool.false_eq_true, not_true_eq_false, not_false_eq_true, fits0, fits1, fits2, fits3, fits4, pLen_B, pLen_Cs, pLen_C, pGet_C0, pGet_C1, pGet_K0, pGet_K1, pGet_Cs0, pEq_I, pEq_C, pEq_Cs, pEq_bl, pIn_Cs, pIn_D, items_Cs, items_B, items_R]
                      rfl
                    · rw [ex, Slen] at hx; unfold sizeLine; simpa using Nat.le_trans hx (by omega)
                    · intro c hc
                      refine ⟨_, rfl, rfl, ?_⟩
                      simp only [fnSem, rho0, outW_rt, outW_nx, gSeq, Vd.gNil, gDo, gRet, gSet, gOwn, gIf, gAsg, gFrz, gKill, gThenKill, gThenFrz, gApp, gExt, gEx, nLst, fOt, otw, f1, f2, fT, fAnd, fOr, fNot, fAndV, fOrV, fNotV, fIf, fCal, aNil, aCons, fTup, fSl, oNo, oSo, fChain, fV, fO, fC, iVal, iL, setF, setO, nG, tupG, consG, nilG, killAt, frzAt, fzS, nDisp1T, fS1, cYes, unlG, bindok, bindex, bindno, noEx_ok, tb_bv, asDat_dat, asDat_wC, asDat_wI, asDat_bv, asDat_wR, asDat_wS, asDat_wN, pds_nil, pds_dat, pds_wI, pds_wC, pds_wR, pds_bv, asI_I, pAdd_I, pSub_I, pCmp_I, pNeg_I, List.map_cons, List.map_nil, List.length_cons, List.length_nil, List.replicate_succ, List.replicate_zero, List.cons_append, List.nil_append, List.getElem?_cons_zero, List.getElem?_cons_succ, List.getD_cons_zero, List.getD_cons_succ, List.set_cons_zero, List.set_cons_succ, Nat.reduceAdd, Nat.reduceSub, Nat.reduceLT, Nat.reduceLeDiff, Nat.zero_lt_succ, if_true, if_false, Bool.false_eq_true, decide_true, decide_false, Bool.not_true, Bool.not_false, Bool.true_and, Bool.and_true, reduceIte, reduceCtorEq, Bool.true_eq_false, Bool.false_eq_true, not_true_eq_false, not_false_eq_true, fits0, fits1, fits2, fits3, fits4, pLen_B, pLen_Cs, pLen_C, pGet_C0, pGet_C1, pGet_K0, pGet_K1, pGet_Cs0, pEq_I, pEq_C, pEq_Cs, pEq_bl, pIn_Cs, pIn_D, items_Cs, items_B, items_R, pIn_S]
                      rfl
                  simp only [fnSem, rho0, outW_rt, outW_nx, gSeq, Vd.gNil, gDo, gRet, gSet, gOwn, gIf, gAsg, gFrz, gKill, gThenKill, gThenFrz, gApp, gExt, gEx, nLst, fOt, otw, f1, f2, fT, fAnd, fOr, fNot, fAndV, fOrV, fNotV, fIf, fCal, aNil, aCons, fTup, fSl, oNo, oSo, fChain, fV, fO, fC, iVal, iL, setF, setO, nG, tupG, consG, nilG, killAt, frzAt, fzS, nDisp1T, fS1, cYes, unlG, bindok, bindex, bindno, noEx_ok, tb_bv, asDat_dat, asDat_wC, asDat_wI, asDat_bv, asDat_wR, asDat_wS, asDat_wN, pds_nil, pds_dat, pds_wI, pds_wC, pds_wR, pds_bv, asI_I, pAdd_I, pSub_I, pCmp_I, pNeg_I, List.map_cons, List.map_nil, List.length_cons, List.length_nil, List.replicate_succ, List.replicate_zero, List.cons_append, List.nil_append, List.getElem?_cons_zero, List.getElem?_cons_succ, List.getD_cons_zero, List.getD_cons_succ, List.set_cons_zero, List.set_cons_succ, Nat.reduceAdd, Nat.reduceSub, Nat.reduceLT, Nat.reduceLeDiff, Nat.zero_lt_succ, if_true, if_false, Bool.false_eq_true, decide_true, decide_false, Bool.not_true, Bool.not_false, Bool.true_and, Bool.and_true, reduceIte, reduceCtorEq, Bool.true_eq_false, Bool.false_eq_true, not_true_eq_false, not_false_eq_true, fits0, fits1, fits2, fits3, fits4, pLen_B, pLen_Cs, pLen_C, pGet_C0, pGet_C1, pGet_K0, pGet_K1, pGet_Cs0, pEq_I, pEq_C, pEq_Cs, pEq_bl, pIn_Cs, pIn_D, items_Cs, items_B, items_R, h2, hM, hL, lx, ly, g0, d1', d2', d3', pEq_I]
                  rw [hlc]
                  simp only [fnSem, rho0, outW_rt, outW_nx, gSeq, Vd.gNil, gDo, gRet, gSet, gOwn, gIf, gAsg, gFrz, gKill, gThenKill, gThenFrz, gApp, gExt, gEx, nLst, fOt, otw, f1, f2, fT, fAnd, fOr, fNot, fAndV, fOrV, fNotV, fIf, fCal, aNil, aCons, fTup, fSl, oNo, oSo, fChain, fV, fO, fC, iVal, iL, setF, setO, nG, tupG, consG, nilG, killAt, frzAt, fzS, nDisp1T, fS1, cYes, unlG, bindok, bindex, bindno, noEx_ok, tb_bv, asDat_dat, asDat_wC, asDat_wI, asDat_bv, asDat_wR, asDat_wS, asDat_wN, pds_nil, pds_dat, pds_wI, pds_wC, pds_wR, pds_bv, asI_I, pAdd_I, pSub_I, pCmp_I, pNeg_I, List.map_cons, List.map_nil, List.length_cons, List.length_nil, List.replicate_succ, List.replicate_zero, List.cons_append, List.nil_append, List.getElem?_cons_zero, List.getElem?_cons_succ, List.getD_cons_zero, List.getD_cons_succ, List.set_cons_zero, List.set_cons_succ, Nat.reduceAdd, Nat.reduceSub, Nat.reduceLT, Nat.reduceLeDiff, Nat.zero_lt_succ, if_true, if_false, Bool.false_eq_true, decide_true, decide_false, Bool.not_true, Bool.not_false, Bool.true_and, Bool.and_true, reduceIte, reduceCtorEq, Bool.true_eq_false, Bool.false_eq_true, not_true_eq_false, not_false_eq_true, fits0, fits1, fits2, fits3, fits4, pLen_B, pLen_Cs, pLen_C, pGet_C0, pGet_C1, pGet_K0, pGet_K1, pGet_Cs0, pEq_I, pEq_C, pEq_Cs, pEq_bl, pIn_Cs, pIn_D, items_Cs, items_B, items_R, pAll_map (fun c => decide (c ∈ lettersC)) x.cps.toList]
                  have d1y : 1 ≤ y.length := by omega
                  have d2y : y.length ≤ 8 := by omega
                  simp only [d1, d2, d3, d1y, d2y, decide_true, Bool.true_and]
                  by_cases d4 : (x.cps.toList.all fun c => decide (c ∈ lettersC)) = true
                  · rw [d4]; rfl
                  · have d4 : (x.cps.toList.all fun c => decide (c ∈ lettersC)) = false := by simpa using d4
                    rw [d4]; rfl
                · have d3' : ¬ (x.length : Int) = (y.length : Int) := by omega
                  simp only [fnSem, rho0, outW_rt, outW_nx, gSeq, Vd.gNil, gDo, gRet, gSet, gOwn, gIf, gAsg, gFrz, gKill, gThenKill, gThenFrz, gApp, gExt, gEx, nLst, fOt, otw, f1, f2, fT, fAnd, fOr, fNot, fAndV, fOrV, fNotV, fIf, fCal, aNil, aCons, fTup, fSl, oNo, oSo, fChain, fV, fO, fC, iVal, iL, setF, setO, nG, tupG, consG, nilG, killAt, frzAt, fzS, nDisp1T, fS1, cYes, unlG, bindok, bindex, bindno, noEx_ok, tb_bv, asDat_dat, asDat_wC, asDat_wI, asDat_bv, asDat_wR, asDat_wS, asDat_wN, pds_nil, pds_dat, pds_wI, pds_wC, pds_wR, pds_bv, asI_I, pAdd_I, pSub_I, pCmp_I, pNeg_I, List.map_cons, List.map_nil, List.length_cons, List.length_nil, List.replicate_succ, List.replicate_zero, List.cons_append, List.nil_append, List.getElem?_cons_zero, List.getElem?_cons_succ, List.getD_cons_zero, List.getD_cons_succ, List.set_cons_zero, List.set_cons_succ, Nat.reduceAdd, Nat.reduceSub, Nat.reduceLT, Nat.reduceLeDiff, Nat.zero_lt_succ, if_true, if_false, Bool.false_eq_true, decide_true, decide_false, Bool.not_true, Bool.not_false, Bool.true_and, Bool.and_true, reduceIte, reduceCtorEq, Bool.true_eq_false, Bool.false_eq_true, not_true_eq_false, not_false_eq_true, fits0, fits1, fits2, fits3, fits4, pLen_B, pLen_Cs, pLen_C, pGet_C0, pGet_C1, pGet_K0, pGet_K1, pGet_Cs0, pEq_I, pEq_C, pEq_Cs, pEq_bl, pIn_Cs, pIn_D, items_Cs, items_B, items_R, h2, hM, hL, lx, ly, g0, d1', d2', d3', pEq_I, d1, d2, d3]
                  rfl
              · have d2' : decide ((x.length : Int) ≤ 8) = false := decide_eq_false (by omega)
                simp only [fnSem, rho0, outW_rt, outW_nx, gSeq, Vd.gNil, gDo, gRet, gSet, gOwn, gIf, gAsg, gFrz, gKill, gThenKill, gThenFrz, gApp, gExt, gEx, nLst, fOt, otw, f1, f2, fT, fAnd, fOr, fNot, fAndV, fOrV, fNotV, fIf, fCal, aNil, aCons, fTup, fSl, oNo, oSo, fChain, fV, fO, fC, iVal, iL, setF, setO, nG, tupG, consG, nilG, killAt, frzAt, fzS, nDisp1T, fS1, cYes, unlG, bindok, bindex, bindno, noEx_ok, tb_bv, asDat_dat, asDat_wC, asDat_wI, asDat_bv, asDat_wR, asDat_wS, asDat_wN, pds_nil, pds_dat, pds_wI, pds_wC, pds_wR, pds_bv, asI_I, pAdd_I, pSub_I, pCmp_I, pNeg_I, List.map_cons, List.map_nil, List.length_cons, List.length_nil, List.replicate_succ, List.replicate_zero, List.cons_append, List.nil_append, List.getElem?_cons_zero, List.getElem?_cons_succ, List.getD_cons_zero, List.getD_cons_succ, List.set_cons_zero, List.set_cons_succ, Nat.reduceAdd, Nat.reduceSub, Nat.reduceLT, Nat.reduceLeDiff, Nat.zero_lt_succ, if_true, if_false, Bool.false_eq_true, decide_true, decide_false, Bool.not_true, Bool.not_false, Bool.true_and, Bool.and_true, reduceIte, reduceCtorEq, Bool.true_eq_false, Bool.false_eq_true, not_true_eq_false, not_false_eq_true, fits0, fits1, fits2, fits3, fits4, pLen_B, pLen_Cs, pLen_C, pGet_C0, pGet_C1, pGet_K0, pGet_K1, pGet_Cs0, pEq_I, pEq_C, pEq_Cs, pEq_bl, pIn_Cs, pIn_D, items_Cs, items_B, items_R, h2, hM, hL, lx, ly, g0, d1', d2', d1, d2]
                rfl
            · have d1' : decide ((1 : Int) ≤ (x.length : Int)) = false := decide_eq_false (by omega)
              simp only [fnSem, rho0, outW_rt, outW_nx, gSeq, Vd.gNil, gDo, gRet, gSet, gOwn, gIf, gAsg, gFrz, gKill, gThenKill, gThenFrz, gApp, gExt, gEx, nLst, fOt, otw, f1, f2, fT, fAnd, fOr, fNot, fAndV, fOrV, fNotV, fIf, fCal, aNil, aCons, fTup, fSl, oNo, oSo, fChain, fV, fO, fC, iVal, iL, setF, setO, nG, tupG, consG, nilG, killAt, frzAt, fzS, nDisp1T, fS1, cYes, unlG, bindok, bindex, bindno, noEx_ok, tb_bv, asDat_dat, asDat_wC, asDat_wI, asDat_bv, asDat_wR, asDat_wS, asDat_wN, pds_nil, pds_dat, pds_wI, pds_wC, pds_wR, pds_bv, asI_I, pAdd_I, pSub_I, pCmp_I, pNeg_I, List.map_cons, List.map_nil, List.length_cons, List.length_nil, List.replicate_succ, List.replicate_zero, List.cons_append, List.nil_append, List.getElem?_cons_zero, List.getElem?_cons_succ, List.getD_cons_zero, List.getD_cons_succ, List.set_cons_zero, List.set_cons_succ, Nat.reduceAdd, Nat.reduceSub, Nat.reduceLT, Nat.reduceLeDiff, Nat.zero_lt_succ, if_true, if_false, Bool.false_eq_true, decide_true, decide_false, Bool.not_true, Bool.not_false, Bool.true_and, Bool.and_true, reduceIte, reduceCtorEq, Bool.true_eq_false, Bool.false_eq_true, not_true_eq_false, not_false_eq_true, fits0, fits1, fits2, fits3, fits4, pLen_B, pLen_Cs, pLen_C, pGet_C0, pGet_C1, pGet_K0, pGet_K1, pGet_Cs0, pEq_I, pEq_C, pEq_Cs, pEq_bl, pIn_Cs, pIn_D, items_Cs, items_B, items_R, h2, hM, hL, lx, ly, g0, d1', d1]
              rfl
          | none => cases hs
          | bool b => cases hs
          | int i => cases hs
          | list l => cases hs
          | tuple l => cases hs
          | dict l => cases hs
        · have hs' : isStrD d = false := by simpa using hs
          have h2 := isi_str hd
          rw [hs'] at h2
          have h3 : rowOk (lenD (ds.headD .none)) d = false := by
            cases d with
            | str x => cases hs'
            | none => rfl
            | bool b => rfl
            | int i => rfl
            | list l => rfl
            | tuple l => rfl
            | dict l => rfl
          simp only [fnSem, rho0, outW_rt, outW_nx, gSeq, Vd.gNil, gDo, gRet, gSet, gOwn, gIf, gAsg, gFrz, gKill, gThenKill, gThenFrz, gApp, gExt, gEx, nLst, fOt, otw, f1, f2, fT, fAnd, fOr, fNot, fAndV, fOrV, fNotV, fIf, fCal, aNil, aCons, fTup, fSl, oNo, oSo, fChain, fV, fO, fC, iVal, iL, setF, setO, nG, tupG, consG, nilG, killAt, frzAt, fzS, nDisp1T, fS1, cYes, unlG, bindok, bindex, bindno, noEx_ok, tb_bv, asDat_dat, asDat_wC, asDat_wI, asDat_bv, asDat_wR, asDat_wS, asDat_wN, pds_nil, pds_dat, pds_wI, pds_wC, pds_wR, pds_bv, asI_I, pAdd_I, pSub_I, pCmp_I, pNeg_I, List.map_cons, List.map_nil, List.length_cons, List.length_nil, List.replicate_succ, List.replicate_zero, List.cons_append, List.nil_append, List.getElem?_cons_zero, List.getElem?_cons_succ, List.getD_cons_zero, List.getD_cons_succ, List.set_cons_zero, List.set_cons_succ, Nat.reduceAdd, Nat.reduceSub, Nat.reduceLT, Nat.reduceLeDiff, Nat.zero_lt_succ, if_true, if_false, Bool.false_eq_true, decide_true, decide_false, Bool.not_true, Bool.not_false, Bool.true_and, Bool.and_true, reduceIte, reduceCtorEq, Bool.true_eq_false, Bool.false_eq_true, not_true_eq_false, not_false_eq_true, fits0, fits1, fits2, fits3, fits4, pLen_B, pLen_Cs, pLen_C, pGet_C0, pGet_C1, pGet_K0, pGet_K1, pGet_Cs0, pEq_I, pEq_C, pEq_Cs, pEq_bl, pIn_Cs, pIn_D, items_Cs, items_B, items_R, h2, h3]
          rfl
      rw [foldE_all]
      simp only [c1, c2, decide_true, Bool.true_and]
      by_cases c3 : (ds.all (rowOk (lenD (ds.headD .none)))) = true
      · rw [if_pos c3, c3]; rfl
      · have c4 : (ds.all (rowOk (lenD (ds.headD .none)))) = false := by simpa using c3
        rw [if_neg c3, c4]; rfl
    · have e1 : decide ((1 : Int) ≤ (ds.length : Int)) = true := decide_eq_true (by omega)
      have e2 : decide ((ds.length : Int) ≤ 8) = false := decide_eq_false (by omega)
      simp only [fnSem, rho0, outW_rt, outW_nx, gSeq, Vd.gNil, gDo, gRet, gSet, gOwn, gIf, gAsg, gFrz, gKill, gThenKill, gThenFrz, gApp, gExt, gEx, nLst, fOt, otw, f1, f2, fT, fAnd, fOr, fNot, fAndV, fOrV, fNotV, fIf, fCal, aNil, aCons, fTup, fSl, oNo, oSo, fChain, fV, fO, fC, iVal, iL, setF, setO, nG, tupG, consG, nilG, killAt, frzAt, fzS, nDisp1T, fS1, cYes, unlG, bindok, bindex, bindno, noEx_ok, tb_bv, asDat_dat, asDat_wC, asDat_wI, asDat_bv, asDat_wR, asDat_wS, asDat_wN, pds_nil, pds_dat, pds_wI, pds_wC, pds_wR, pds_bv, asI_I, pAdd_I, pSub_I, pCmp_I, pNeg_I, List.map_cons, List.map_nil, List.length_cons, List.length_nil, List.replicate_succ, List.replicate_zero, List.cons_append, List.nil_append, List.getElem?_cons_zero, List.getElem?_cons_succ, List.getD_cons_zero, List.getD_cons_succ, List.set_cons_zero, List.set_cons_succ, Nat.reduceAdd, Nat.reduceSub, Nat.reduceLT, Nat.reduceLeDiff, Nat.zero_lt_succ, if_true, if_false, Bool.false_eq_true, decide_true, decide_false, Bool.not_true, Bool.not_false, Bool.true_and, Bool.and_true, reduceIte, reduceCtorEq, Bool.true_eq_false, Bool.false_eq_true, not_true_eq_false, not_false_eq_true, fits0, fits1, fits2, fits3, fits4, pLen_B, pLen_Cs, pLen_C, pGet_C0, pGet_C1, pGet_K0, pGet_K1, pGet_Cs0, pEq_I, pEq_C, pEq_Cs, pEq_bl, pIn_Cs, pIn_D, items_Cs, items_B, items_R, F_is_board, g_is_board, h1, hM, hlen, e1, e2, c2, wbv_eq]
      simp
  · have e1 : decide ((1 : Int) ≤ (ds.length : Int)) = false := decide_eq_false (by omega)
    simp only [fnSem, rho0, outW_rt, outW_nx, gSeq, Vd.gNil, gDo, gRet, gSet, gOwn, gIf, gAsg, gFrz, gKill, gThenKill, gThenFrz, gApp, gExt, gEx, nLst, fOt, otw, f1, f2, fT, fAnd, fOr, fNot, fAndV, fOrV, fNotV, fIf, fCal, aNil, aCons, fTup, fSl, oNo, oSo, fChain, fV, fO, fC, iVal, iL, setF, setO, nG, tupG, consG, nilG, killAt, frzAt, fzS, nDisp1T, fS1, cYes, unlG, bindok, bindex, bindno, noEx_ok, tb_bv, asDat_dat, asDat_wC, asDat_wI, asDat_bv, asDat_wR, asDat_wS, asDat_wN, pds_nil, pds_dat, pds_wI, pds_wC, pds_wR, pds_bv, asI_I, pAdd_I, pSub_I, pCmp_I, pNeg_I, List.map_cons, List.map_nil, List.length_cons, List.length_nil, List.replicate_succ, List.replicate_zero, List.cons_append, List.nil_append, List.getElem?_cons_zero, List.getElem?_cons_succ, List.getD_cons_zero, List.getD_cons_succ, List.set_cons_zero, List.set_cons_succ, Nat.reduceAdd, Nat.reduceSub, Nat.reduceLT, Nat.reduceLeDiff, Nat.zero_lt_succ, if_true, if_false, Bool.false_eq_true, decide_true, decide_false, Bool.not_true, Bool.not_false, Bool.true_and, Bool.and_true, reduceIte, reduceCtorEq, Bool.true_eq_false, Bool.false_eq_true, not_true_eq_false, not_false_eq_true, fits0, fits1, fits2, fits3, fits4, pLen_B, pLen_Cs, pLen_C, pGet_C0, pGet_C1, pGet_K0, pGet_K1, pGet_Cs0, pEq_I, pEq_C, pEq_Cs, pEq_bl, pIn_Cs, pIn_D, items_Cs, items_B, items_R, F_is_board, g_is_board, h1, hM, hlen, e1, c1, wbv_eq]
    simp
/-- what is refused as no board -/
def noBd (d : Pd) : Prop := plainD d ∧ ∀ ds, d = .tuple ds → (∀ x ∈ ds, plainD x) ∧ ds.length ≤ 1000 ∧ isBd ds = false
theorem D_is_board_noG {d : Pd} (h : noBd d) : F_is_board [.dat d] = .ok (bv false) := by
  by_cases c : ∃ ds, d = .tuple ds
  · obtain ⟨ds, rfl⟩ := c
    obtain ⟨h1, h2, h3⟩ := h.2 ds rfl
    rw [D_is_boardG h1 h2, h3]
  · exact D_is_board_no h.1 fun ds e => c ⟨ds, e⟩
theorem D_need_board_no {d : Pd} (h : noBd d) : F_need_board [.dat d] = .ex "NoBoard" := by
  simp only [fnSem, rho0, outW_rt, outW_nx, gSeq, Vd.gNil, gDo, gRet, gSet, gOwn, gIf, gAsg, gFrz, gKill, gThenKill, gThenFrz, gApp, gExt, gEx, nLst, fOt, otw, f1, f2, fT, fAnd, fOr, fNot, fAndV, fOrV, fNotV, fIf, fCal, aNil, aCons, fTup, fSl, oNo, oSo, fChain, fV, fO, fC, iVal, iL, setF, setO, nG, tupG, consG, nilG, killAt, frzAt, fzS, nDisp1T, fS1, cYes, unlG, bindok, bindex, bindno, noEx_ok, tb_bv, asDat_dat, asDat_wC, asDat_wI, asDat_bv, asDat_wR, asDat_wS, asDat_wN, pds_nil, pds_dat, pds_wI, pds_wC, pds_wR, pds_bv, asI_I, pAdd_I, pSub_I, pCmp_I, pNeg_I, List.map_cons, List.map_nil, List.length_cons, List.length_nil, List.replicate_succ, List.replicate_zero, List.cons_append, List.nil_append, List.getElem?_cons_zero, List.getElem?_cons_succ, List.getD_cons_zero, List.getD_cons_succ, List.set_cons_zero, List.set_cons_succ, Nat.reduceAdd, Nat.reduceSub, Nat.reduceLT, Nat.reduceLeDiff, Nat.zero_lt_succ, if_true, if_false, Bool.false_eq_true, decide_true, decide_false, Bool.not_true, Bool.not_false, Bool.true_and, Bool.and_true, reduceIte, reduceCtorEq, Bool.true_eq_false, Bool.false_eq_true, not_true_eq_false, not_false_eq_true, fits0, fits1, fits2, fits3, fits4, pLen_B, pLen_Cs, pLen_C, pGet_C0, pGet_C1, pGet_K0, pGet_K1, pGet_Cs0, pEq_I, pEq_C, pEq_Cs, pEq_bl, pIn_Cs, pIn_D, items_Cs, items_B, items_R, F_need_board, g_need_board, D_is_board_noG h]
/-- five that are none -/
def badB (b : Bd) : List Pd := [.none, .tuple [], .list (b.map pR), .tuple (b.map pR ++ [pR []]), .tuple [pR [103]]]
theorem badB_no {b : Bd} (g : Good b) : ∀ d ∈ badB b, noBd d := by
  have hr : ∀ x ∈ b.map pR, plainD x := fun x hx => by
    obtain ⟨r, hr, rfl⟩ := List.mem_map.mp hx
    show (S r).length ≤ 1000
    rw [Slen, g.row r hr]; have := g.w8; omega
  have h8 := g.h8
  intro d hd
  simp only [badB, List.mem_cons, List.not_mem_nil, or_false] at hd
  rcases hd with rfl | rfl | rfl | rfl | rfl
  · exact ⟨trivial, fun ds e => nomatch e⟩
  · exact ⟨trivial, fun ds e => by cases e; exact ⟨fun x h => by simp at h, by simp, rfl⟩⟩
  · exact ⟨trivial, fun ds e => nomatch e⟩
  · refine ⟨trivial, fun ds e => ?_⟩
    cases e
    refine ⟨fun x hx => ?_, by simp; omega, ?_⟩
    · rcases List.mem_append.mp hx with q | q
      · exact hr x q
      · simp at q; subst q; show (S []).length ≤ 1000; simp [Slen]
    · unfold isBd
      have : (b.map pR ++ [pR []]).all (rowOk (lenD ((b.map pR ++ [pR []]).headD .none))) = false := by
        rw [List.all_append]
        have : ([pR []] : List Pd).all (rowOk (lenD ((b.map pR ++ [pR []]).headD .none))) = false := by simp [rowOk, pR, Slen]
        rw [this]; simp
      rw [this]; simp
  · refine ⟨trivial, fun ds e => ?_⟩
    cases e
    refine ⟨fun x hx => by simp at hx; subst hx; show (S [103]).length ≤ 1000; simp [Slen], by simp, by decide⟩
theorem gTryE_ok {i : Nat} {ys : List Str} {G : Str → R W} {g : Rho → R Out} {ρ : Rho} {o : Out} (h : noOw ρ = true ∧ i < ρ.length) (e : g ρ = .ok o) : gTryE i ys G g ρ = .ok o := by
  unfold gTryE; rw [if_pos h, e]
theorem gTryE_ex {i : Nat} {ys : List Str} {G : Str → R W} {g : Rho → R Out} {ρ : Rho} {c : Str} {w : W} (h : noOw ρ = true ∧ i < ρ.length) (e : g ρ = .ex c) (hc : c ∈ ys) (hG : G c = .ok w) : gTryE i ys G g ρ = .ok (.rt w) := by
  unfold gTryE; rw [if_pos h, e]
  show (if c ∈ ys then (noEx (G c)).bind fun w => R.ok (Out.rt w) else R.no) = _
  rw [if_pos hc, hG]; rfl
theorem seq_nx {g h : Rho → R Out} {ρ ρ' : Rho} (e : g ρ = .ok (.nx ρ')) : gSeq g h ρ = h ρ' := by unfold gSeq; rw [e]; rfl
theorem seq_if {c : Rho → R Bool} {g k : Rho → R Out} {ρ : Rho} (e : c ρ = .ok false) : gSeq (gIf c g Vd.gNil) k ρ = k ρ := seq_nx (by unfold gIf; rw [e]; rfl)
theorem if_no {c : Rho → R Bool} {g : Rho → R Out} {ρ : Rho} (e : c ρ = .ok false) : gIf c g Vd.gNil ρ = .ok (.nx ρ) := by unfold gIf; rw [e]; rfl
theorem or2 {f g : Rho → R Bool} {ρ : Rho} (e : f ρ = .ok false) (e2 : g ρ = .ok false) : fOr f g ρ = .ok false := by unfold fOr; rw [e]; exact e2
theorem ne_no {f g : Rho → R W} {ρ : Rho} {x y : W} (e : f ρ = .ok x) (e2 : g ρ = .ok y) (h : pEq true x y = .ok (bv false)) : fT (f2 (pEq true) f g) ρ = .ok false := by
  unfold fT f2; rw [e, bindok, e2, bindok, h]; rfl
def wRef (n : Int) : W := .dat (.tuple [.str (S [114, 101, 102, 117, 115, 101, 100]), .int n])
end Cp



/-! Stp: single steps. -/
namespace Cp

open L2 PyProof.Rows PySem PySem.Spec Vd

variable {ρ ρ' : Rho}

theorem st_set {i : Nat} {f : Rho → R W} {w : W} (e : f ρ = .ok w) (h : Nat.blt i ρ.length = true := by rfl) : gSet i f ρ = .ok (.nx (ρ.set i (.fz w))) := by
  have h := Nat.le_of_ble_eq_true h
  unfold gSet setF; rw [e, bindok, if_pos (show i < ρ.length from h)]; rfl
theorem st_own {i : Nat} {f : Rho → R OT} {t : OT} (e : f ρ = .ok t) (h : Nat.blt i ρ.length = true := by rfl) : gOwn i f ρ = .ok (.nx (ρ.set i (.ow t))) := by
  have h := Nat.le_of_ble_eq_true h
  unfold gOwn setO; rw [e, bindok, if_pos (show i < ρ.length from h)]; rfl
theorem st_if {c : Rho → R Bool} {g k : Rho → R Out} {b : Bool} (e : c ρ = .ok b) : gIf c g k ρ = if b = true then g ρ else k ρ := by unfold gIf; rw [e]; rfl
theorem st_and {f g : Rho → R Bool} {a b : Bool} (e : f ρ = .ok a) (e2 : g ρ = .ok b) : fAnd f g ρ = .ok (a && b) := by unfold fAnd; rw [e, bindok]; cases a <;> simp [e2]
theorem st_or {f g : Rho → R Bool} {a b : Bool} (e : f ρ = .ok a) (e2 : g ρ = .ok b) : fOr f g ρ = .ok (a || b) := by unfold fOr; rw [e, bindok]; cases a <;> simp [e2]
theorem st_not {f : Rho → R Bool} {a : Bool} (e : f ρ = .ok a) : fNot f ρ = .ok (!a) := by unfold fNot; rw [e]; rfl
theorem st_andV {f g : Rho → R W} {a b : Bool} (e : f ρ = .ok (bv a)) (e2 : g ρ = .ok (bv b)) : fAndV f g ρ = .ok (bv (a && b)) := by
  unfold fAndV; rw [e, bindok, tb_bv, bindok]; cases a <;> simp [e2]
theorem st_orV {f g : Rho → R W} {a b : Bool} (e : f ρ = .ok (bv a)) (e2 : g ρ = .ok (bv b)) : fOrV f g ρ = .ok (bv (a || b)) := by
  unfold fOrV; rw [e, bindok, tb_bv, bindok]; cases a <;> simp [e2]
theorem st_T {f : Rho → R W} {a : Bool} (e : f ρ = .ok (bv a)) : fT f ρ = .ok a := by unfold fT; rw [e, bindok, tb_bv]
theorem st_2 {h : W → W → R W} {f g : Rho → R W} {x y z : W} (e : f ρ = .ok x) (e2 : g ρ = .ok y) (e3 : h x y = .ok z) : f2 h f g ρ = .ok z := by unfold f2; rw [e, bindok, e2, bindok, e3]
theorem st_T2 {h : W → W → R W} {f g : Rho → R W} {x y : W} {a : Bool} (e : f ρ = .ok x) (e2 : g ρ = .ok y) (e3 : h x y = .ok (bv a)) : fT (f2 h f g) ρ = .ok a := st_T (st_2 e e2 e3)
theorem st_chain {h h' : W → W → R W} {f g k : Rho → R W} {x y z : W} {a b : Bool} (e : f ρ = .ok x) (e2 : g ρ = .ok y) (e3 : k ρ = .ok z) (e4 : h x y = .ok (bv a)) (e5 : h' y z = .ok (bv b)) : fChain h h' f g k ρ = .ok (bv (a && b)) := by
  unfold fChain; rw [e, bindok, e2, bindok, e4, bindok, tb_bv, bindok]; cases a
  · rfl
  · rw [if_pos rfl, e3, bindok, e5]; rfl
theorem st_kill {is : List Nat} {g : Rho → R Out} (e : g ρ = .ok (.nx ρ')) : gThenKill is g ρ = .ok (.nx (killAt is ρ')) := by unfold gThenKill; rw [e]; rfl
theorem st_ret {f : Rho → R W} {w : W} (e : f ρ = .ok w) : gRet f ρ = .ok (.rt w) := by unfold gRet; rw [e]; rfl
theorem st_C {f : Rho → R W} {c : C2} (e : f ρ = .ok (wC c)) : f2 pGet f (fC (wI 0)) ρ = .ok (wI c.1) ∧ f2 pGet f (fC (wI 1)) ρ = .ok (wI c.2) := ⟨st_2 e rfl (pGet_C0 c), st_2 e rfl (pGet_C1 c)⟩
theorem st_I2 {p : Int → Int → Bool} {f g : Rho → R W} {i j : Int} (e : f ρ = .ok (wI i)) (e2 : g ρ = .ok (wI j)) : f2 (pCmp p) f g ρ = .ok (bv (p i j)) := st_2 e e2 rfl
theorem callIx_at {L : List (Str × (List W → R W))} {fi : Rho → R W} {t : Rho → R (List W)} {w : W} {x : Str} {ws : List W} {G : List W → R W} (hi : fi ρ = .ok w) (hx : fnIx (L.map (·.1)) w = .ok x) (ht : t ρ = .ok ws) (hl : lkG L x = some G) : fCallIx L fi t ρ = G ws := by
  unfold fCallIx; rw [hi, bindok, hx, bindok, ht, bindok, hl]
end Cp




/-! Stq: single steps, more. -/
namespace Cp

open L2 PyProof.Rows PySem PySem.Spec Vd

theorem st_S1 {h : Str → W → R W} {f g : Rho → R W} {ρ : Rho} {l : List Nat} {y w : W} (e : f ρ = .ok (wS l)) (e2 : g ρ = .ok y) (e3 : h (S l) y = .ok w) : fS1 h f g ρ = .ok w := by
  unfold fS1; rw [e, bindok]
  show (g ρ).bind _ = _
  rw [e2, bindok]; exact e3
theorem st_ot {f : Rho → R OT} {ρ : Rho} {t : OT} (e : f ρ = .ok t) : fOt f ρ = .ok (otw t) := by unfold fOt; rw [e]; rfl
theorem st_cal1' {F : List W → R W} {f : Rho → R W} {ρ : Rho} {x w : W} (e : f ρ = .ok x) (h : F [x] = .ok w) : fCal F (aCons f aNil) ρ = .ok w := by
  unfold fCal aCons aNil; rw [e, bindok, bindok, bindok]; exact h
theorem app_g {i : Nat} {f : Rho → R W} {ρ : Rho} {ds : List Pd} {d : Pd} (h : ρ[i]? = some (.ow (.L ds))) (e : f ρ = .ok (.dat d)) (hl : ds.length ≤ 1000) : gApp i f ρ = .ok (.nx (ρ.set i (.ow (.L (ds ++ [d]))))) := by
  unfold gApp
  have : ds.length < sizeLine := by unfold sizeLine; omega
  simp only [h, e, bindok, asDat_dat, this, if_true]
theorem cal_ex {F : List W → R W} {f : Rho → R (List W)} {ρ : Rho} {ws : List W} {c : Str} (e : f ρ = .ok ws) (h : F ws = .ex c) : fCal F f ρ = .ex c := by
  unfold fCal; rw [e, bindok]; exact h
theorem cal_ok {F : List W → R W} {f : Rho → R (List W)} {ρ : Rho} {ws : List W} {w : W} (e : f ρ = .ok ws) (h : F ws = .ok w) : fCal F f ρ = .ok w := by
  unfold fCal; rw [e, bindok]; exact h
theorem st_I1D {f g : Rho → R W} {ρ : Rho} {ds : List Pd} {y w : W} (e : f ρ = .ok (.dat (.list ds))) (e2 : g ρ = .ok y) (e3 : pIndexD ds y = .ok w) : fI1D f g ρ = .ok w := by
  unfold fI1D; rw [e, bindok]
  show (R.ok ds).bind _ = _
  rw [bindok, e2, bindok]; exact e3
theorem st_tupC {A B : Rho → R W} {ρ : Rho} {c : C2} (h1 : A ρ = .ok (wI c.1)) (h2 : B ρ = .ok (wI c.2)) : fTup (aCons A (aCons B aNil)) ρ = .ok (wC c) := by
  unfold fTup aCons aNil; rw [h1, bindok, h2, bindok, bindok, bindok, bindok]
  show (if fits 2 then R.ok (wC c) else .no) = _
  rw [if_pos fits2]
theorem st_cons {f : Rho → R W} {t : Rho → R (List W)} {ρ : Rho} {w : W} {ws : List W} (e : f ρ = .ok w) (e2 : t ρ = .ok ws) : aCons f t ρ = .ok (w :: ws) := by unfold aCons; rw [e, bindok, e2, bindok]
theorem st_nil {ρ : Rho} : aNil ρ = .ok [] := rfl
theorem st_rng {f : Rho → R W} {ρ : Rho} {n : Nat} (e : f ρ = .ok (wI n)) (h : n ≤ 100000) : iL rng1 (aCons f aNil) ρ = .ok ((List.range n).map fun k : Nat => wI k) := by
  unfold iL; rw [st_cons e st_nil, bindok, rng1_I _ (by omega) (by omega), Int.toNat_natCast]
theorem st_items {f : Rho → R W} {ρ : Rho} {w : W} {l : List W} (e : f ρ = .ok w) (h : items w = .ok l) : iVal f ρ = .ok l := by unfold iVal; rw [e, bindok, h]
theorem st_lenB {f : Rho → R W} {ρ : Rho} {b : Bd} (e : f ρ = .ok (wB b)) : fCal pLen (aCons f aNil) ρ = .ok (wI b.length) := cal_ok (st_cons e st_nil) (pLen_B b)
theorem st_wd {f : Rho → R W} {ρ : Rho} {b : Bd} (g : Good b) (e : f ρ = .ok (wB b)) : fCal pLen (aCons (f2 pGet f (fC (wI 0))) aNil) ρ = .ok (wI (wd b)) := cal_ok (st_cons (st_2 e rfl g.get0) st_nil) g.len0
theorem st_get2 {f g h : Rho → R W} {ρ : Rho} {d y z w : W} (e1 : f ρ = .ok d) (e2 : g ρ = .ok y) (e3 : h ρ = .ok z) (hd : isD d = true) (e : pDGet d y z = .ok w) : fGet2 f g h ρ = .ok w := by
  unfold fGet2; rw [e1, bindok, if_pos hd, e2, bindok, e3, bindok]; exact e
theorem nLst_nil {ρ : Rho} : nLst aNil ρ = .ok (.L []) := by
  unfold nLst aNil
  rw [bindok, pds_nil, bindok, if_pos]
  exact fits0
theorem seq_if2 {c : Rho → R Bool} {g k : Rho → R Out} {ρ : Rho} {b : Bool} (e : c ρ = .ok b) (hb : b = false) : gSeq (gIf c g Vd.gNil) k ρ = k ρ := by subst hb; exact seq_if e
theorem do_ex {f : Rho → R W} {k : Rho → R Out} {ρ : Rho} {c : Str} (e : f ρ = .ex c) : gSeq (gDo f) k ρ = .ex c := by unfold gSeq gDo; rw [e]; rfl
theorem do_ok {f : Rho → R W} {k : Rho → R Out} {ρ : Rho} {w : W} (e : f ρ = .ok w) : gSeq (gDo f) k ρ = k ρ := by unfold gSeq gDo; rw [e]; rfl
theorem ret_ex {f : Rho → R W} {ρ : Rho} {c : Str} (e : f ρ = .ex c) : gRet f ρ = .ex c := by unfold gRet; rw [e]; rfl
theorem if_yes {c : Rho → R Bool} {g k h : Rho → R Out} {ρ : Rho} (e : c ρ = .ok true) : gSeq (gIf c g k) h ρ = gSeq g h ρ := by unfold gSeq gIf; rw [e]; rfl
theorem seq_rt {g h : Rho → R Out} {ρ : Rho} {w : W} (e : g ρ = .ok (.rt w)) : gSeq g h ρ = .ok (.rt w) := by unfold gSeq; rw [e]; rfl
theorem seq_ex {g h : Rho → R Out} {ρ : Rho} {c : Str} (e : g ρ = .ex c) : gSeq g h ρ = .ex c := by unfold gSeq; rw [e]; rfl
theorem set_ex {i : Nat} {f : Rho → R W} {ρ : Rho} {c : Str} (e : f ρ = .ex c) : gSet i f ρ = .ex c := by unfold gSet; rw [e]; rfl
theorem st_ownfrz {i : Nat} {f : Rho → R OT} {ρ : Rho} {t : OT} (e : f ρ = .ok t) (h : Nat.blt i ρ.length = true := by rfl) : gThenFrz i (gOwn i f) ρ = .ok (.nx (frzAt i (ρ.set i (.ow t)))) := by
  unfold gThenFrz; rw [st_own e h]; rfl
theorem st_ownfrz2 {i : Nat} {f : Rho → R OT} {ρ ρ' : Rho} {t : OT} (e : f ρ = .ok t) (h2 : frzAt i (ρ.set i (.ow t)) = ρ' := by rfl) (h : Nat.blt i ρ.length = true := by rfl) : gThenFrz i (gOwn i f) ρ = .ok (.nx ρ') := by rw [← h2]; exact st_ownfrz e h
theorem app_I {i : Nat} {f : Rho → R W} {ρ : Rho} {s : List Int} {n : Int} (h : ρ[i]? = some (.ow (.L (s.map PyData.int)))) (e : f ρ = .ok (wI n)) (hl : s.length ≤ 1000) : gApp i f ρ = .ok (.nx (ρ.set i (.ow (.L ((s ++ [n]).map PyData.int))))) := by
  unfold gApp
  have : (s.map PyData.int).length < sizeLine := by rw [List.length_map]; unfold sizeLine; omega
  simp only [h, e, bindok, asDat_wI, this, if_true, List.map_append]
  rfl
theorem pEq_same (n : Bool) {d : Pd} (h : SeqAt.shaped d = true) : pEq n (.dat d) (.dat d) = .ok (bv (!n)) := by
  have e : PyData.eqv d d = decide True := by rw [PySem.SeqAt.eqv_refl d (SeqAt.canLay_of_shaped h)]; rfl
  rw [pEq_mk (n := n) h h e]; cases n <;> simp
end Cp



/-! D2: going out over like cells. -/
namespace Cp

open L2 PyProof.Rows PySem PySem.Spec Vd Bf

def pO : Option C2 → Pd
  | none => .none
  | some c => pC c
def wD (f : Fd C2) : W := .dT (dCs pO f)
theorem gPut_C {α : Type} (e : α → Pd) {i : Nat} {kf vf : Rho → R W} {ρ : Rho} {f : List (C2 × α)} {c : C2} {x : α} (h : ρ[i]? = some (.ow (.dT (dCs e f)))) (hk : kf ρ = .ok (wC c)) (hv : vf ρ = .ok (.dat (e x))) (hc : c ∉ f.map (·.1)) (hl : f.length < sizeLine) :
    gPut i kf vf ρ = .ok (.nx (ρ.set i (.ow (.dT (dCs e (f ++ [(c, x)])))))) := by
  unfold gPut
  simp only [hv, bindok, asDat_dat, h, hk, asDat_wC, keyT_C]
  rw [if_pos (by simpa [dCs] using hl), pt_C e f c x hc]
def nbk (b : Bd) (k : Int) : C2 → List C2 := fun h => near b h k
def okk (b : Bd) (one : C2) : C2 → Bool := fun t => decide (ltr b t = ltr b one)
theorem bT_len {C : Type} [DecidableEq C] {ok : C → Bool} {h : C} : ∀ (l : List C) (s : Fd C × List C), (l.foldl (bT ok h) s).1.length ≤ s.1.length + l.length ∧ (l.foldl (bT ok h) s).2.length ≤ s.2.length + l.length
  | [], s => ⟨Nat.le_refl _, Nat.le_refl _⟩
  | t :: l, s => by
    rw [List.foldl_cons]
    have ih := bT_len (ok := ok) (h := h) l (bT ok h s t)
    have : (bT ok h s t).1.length ≤ s.1.length + 1 ∧ (bT ok h s t).2.length ≤ s.2.length + 1 := by
      unfold bT; split <;> simp
    simp only [List.length_cons]; omega
theorem near_len (b : Bd) (c : C2) (k : Int) : (near b c k).length ≤ 8 := by
  unfold near
  have := List.length_filter_le (ins b) ((stepsL k).map fun d => (c.1 + d.1, c.2 + d.2))
  have := stepsL_len k
  rw [List.length_map] at *; omega
theorem near_ins {b : Bd} {c d : C2} {k : Int} (h : d ∈ near b c k) : ins b d = true := (List.mem_filter.mp h).2
def stS (b : Bd) (k : Int) (one : C2) (row : List C2) (x : Sl) (s : Fd C2 × List C2) : Rho := [.fz (wB b), .fz (wC one), .fz (wI k), .ow (.dT (dCs pO s.1)), .fz (wCs row), .ow (.L (s.2.map pC)), x, .un]
theorem D_spread_in {b : Bd} (g : Good b) {k : Int} (hk : k = 4 ∨ k = 8) {one : C2} (h1 : ins b one = true) (row : List C2) (here : C2) (s0 : Fd C2 × List C2) (hs : s0.1.length ≤ 900 ∧ s0.2.length ≤ 900) :
    (gFor (iVal (fCal F_near (aCons (fV 0) (aCons (fV 6) (aCons (fV 2) aNil))))) (nG 7) (gThenKill [7] (gIf (fAnd (fT (f2 (pInW true) (fO 7) (fO 3))) (fT (f2 (pEq false) (f2 pGet (f2 pGet (fO 0) (f2 pGet (fO 7) (fC (wI 0)))) (f2 pGet (fO 7) (fC (wI 1)))) (f2 pGet (f2 pGet (fO 0) (f2 pGet (fO 1) (fC (wI 0)))) (f2 pGet (fO 1) (fC (wI 1))))))) (gSeq (gPut 3 (fV 7) (fV 6)) (gApp 5 (fV 7))) Vd.gNil))) (stS b k one row (.fz (wC here)) s0)
      = .ok (.nx (stS b k one row (.fz (wC here)) (bH (nbk b k) (okk b one) s0 here))) := by
  unfold bH
  rw [gFor_inv wC (near b here k) (stS b k one row (.fz (wC here))) (bT (okk b one) here) (fun l s => s.1.length + l.length ≤ 1000 ∧ s.2.length + l.length ≤ 1000 ∧ ∀ t ∈ l, ins b t = true) s0]
  · rfl
  · simp only [fnSem, rho0, outW_rt, outW_nx, gSeq, Vd.gNil, gDo, gRet, gSet, gOwn, gIf, gAsg, gFrz, gKill, gThenKill, gThenFrz, gApp, gExt, gEx, nLst, fOt, otw, f1, f2, fT, fAnd, fOr, fNot, fAndV, fOrV, fNotV, fIf, fCal, aNil, aCons, fTup, fSl, oNo, oSo, fChain, fV, fO, fC, iVal, iL, setF, setO, nG, tupG, consG, nilG, killAt, frzAt, fzS, nDisp1T, fS1, cYes, unlG, bindok, bindex, bindno, noEx_ok, tb_bv, asDat_dat, asDat_wC, asDat_wI, asDat_bv, asDat_wR, asDat_wS, asDat_wN, pds_nil, pds_dat, pds_wI, pds_wC, pds_wR, pds_bv, asI_I, pAdd_I, pSub_I, pCmp_I, pNeg_I, List.map_cons, List.map_nil, List.length_cons, List.length_nil, List.replicate_succ, List.replicate_zero, List.cons_append, List.nil_append, List.getElem?_cons_zero, List.getElem?_cons_succ, List.getD_cons_zero, List.getD_cons_succ, List.set_cons_zero, List.set_cons_succ, Nat.reduceAdd, Nat.reduceSub, Nat.reduceLT, Nat.reduceLeDiff, Nat.zero_lt_succ, if_true, if_false, Bool.false_eq_true, decide_true, decide_false, Bool.not_true, Bool.not_false, Bool.true_and, Bool.and_true, reduceIte, reduceCtorEq, Bool.true_eq_false, Bool.false_eq_true, not_true_eq_false, not_false_eq_true, fits0, fits1, fits2, fits3, fits4, pLen_B, pLen_Cs, pLen_C, pGet_C0, pGet_C1, pGet_K0, pGet_K1, pGet_Cs0, pEq_I, pEq_C, pEq_Cs, pEq_bl, pIn_Cs, pIn_D, items_Cs, items_B, items_R, stS, D_near g _ hk]
  · rfl
  · have := near_len b here k
    exact ⟨by omega, by omega, fun t ht => near_ins ht⟩
  · intro t r s ⟨i1, i2, i3⟩
    simp only [List.length_cons] at i1 i2
    have ht := i3 t List.mem_cons_self
    have e1 := pEq_S false (g.okl ht) (g.okl h1)
    unfold bT
    by_cases c1 : t ∈ s.1.map (·.1)
    · refine ⟨?_, ?_⟩
      · simp only [fnSem, rho0, outW_rt, outW_nx, gSeq, Vd.gNil, gDo, gRet, gSet, gOwn, gIf, gAsg, gFrz, gKill, gThenKill, gThenFrz, gApp, gExt, gEx, nLst, fOt, otw, f1, f2, fT, fAnd, fOr, fNot, fAndV, fOrV, fNotV, fIf, fCal, aNil, aCons, fTup, fSl, oNo, oSo, fChain, fV, fO, fC, iVal, iL, setF, setO, nG, tupG, consG, nilG, killAt, frzAt, fzS, nDisp1T, fS1, cYes, unlG, bindok, bindex, bindno, noEx_ok, tb_bv, asDat_dat, asDat_wC, asDat_wI, asDat_bv, asDat_wR, asDat_wS, asDat_wN, pds_nil, pds_dat, pds_wI, pds_wC, pds_wR, pds_bv, asI_I, pAdd_I, pSub_I, pCmp_I, pNeg_I, List.map_cons, List.map_nil, List.length_cons, List.length_nil, List.replicate_succ, List.replicate_zero, List.cons_append, List.nil_append, List.getElem?_cons_zero, List.getElem?_cons_succ, List.getD_cons_zero, List.getD_cons_succ, List.set_cons_zero, List.set_cons_succ, Nat.reduceAdd, Nat.reduceSub, Nat.reduceLT, Nat.reduceLeDiff, Nat.zero_lt_succ, if_true, if_false, Bool.false_eq_true, decide_true, decide_false, Bool.not_true, Bool.not_false, Bool.true_and, Bool.and_true, reduceIte, reduceCtorEq, Bool.true_eq_false, Bool.false_eq_true, not_true_eq_false, not_false_eq_true, fits0, fits1, fits2, fits3, fits4, pLen_B, pLen_Cs, pLen_C, pGet_C0, pGet_C1, pGet_K0, pGet_K1, pGet_Cs0, pEq_I, pEq_C, pEq_Cs, pEq_bl, pIn_Cs, pIn_D, items_Cs, items_B, items_R, stS, c1, Bool.and_false, false_and]
      · rw [if_neg (fun q => q.1 c1)]; exact ⟨by omega, by omega, fun x hx => i3 x (List.mem_cons_of_mem _ hx)⟩
    · by_cases c2 : ltr b t = ltr b one
      · have hf : s.1.length < sizeLine := by unfold sizeLine; omega
        have hl : (s.2.map pC).length < sizeLine := by rw [List.length_map]; unfold sizeLine; omega
        have hp : gPut 3 (fV 7) (fV 6) [.fz (wB b), .fz (wC one), .fz (wI k), .ow (.dT (dCs pO s.1)), .fz (wCs row), .ow (.L (s.2.map pC)), .fz (wC here), .fz (wC t)] = _ := gPut_C pO (x := some here) rfl rfl rfl c1 hf
        have e2 := e1
        rw [c2] at e2
        refine ⟨?_, ?_⟩
        · simp only [fnSem, rho0, outW_rt, outW_nx, gSeq, Vd.gNil, gDo, gRet, gSet, gOwn, gIf, gAsg, gFrz, gKill, gThenKill, gThenFrz, gApp, gExt, gEx, nLst, fOt, otw, f1, f2, fT, fAnd, fOr, fNot, fAndV, fOrV, fNotV, fIf, fCal, aNil, aCons, fTup, fSl, oNo, oSo, fChain, fV, fO, fC, iVal, iL, setF, setO, nG, tupG, consG, nilG, killAt, frzAt, fzS, nDisp1T, fS1, cYes, unlG, bindok, bindex, bindno, noEx_ok, tb_bv, asDat_dat, asDat_wC, asDat_wI, asDat_bv, asDat_wR, asDat_wS, asDat_wN, pds_nil, pds_dat, pds_wI, pds_wC, pds_wR, pds_bv, asI_I, pAdd_I, pSub_I, pCmp_I, pNeg_I, List.map_cons, List.map_nil, List.length_cons, List.length_nil, List.replicate_succ, List.replicate_zero, List.cons_append, List.nil_append, List.getElem?_cons_zero, List.getElem?_cons_succ, List.getD_cons_zero, List.getD_cons_succ, List.set_cons_zero, List.set_cons_succ, Nat.reduceAdd, Nat.reduceSub, Nat.reduceLT, Nat.reduceLeDiff, Nat.zero_lt_succ, if_true, if_false, Bool.false_eq_true, decide_true, decide_false, Bool.not_true, Bool.not_false, Bool.true_and, Bool.and_true, reduceIte, reduceCtorEq, Bool.true_eq_false, Bool.false_eq_true, not_true_eq_false, not_false_eq_true, fits0, fits1, fits2, fits3, fits4, pLen_B, pLen_Cs, pLen_C, pGet_C0, pGet_C1, pGet_K0, pGet_K1, pGet_Cs0, pEq_I, pEq_C, pEq_Cs, pEq_bl, pIn_Cs, pIn_D, items_Cs, items_B, items_R, stS, c1, c2, e2, g.get2 ht, g.get2 h1, e1, hp, hl, okk, and_self, List.map_append]
        · rw [if_pos ⟨c1, by unfold okk; simp [c2]⟩]
          simp only [List.length_append, List.length_singleton]
          exact ⟨by omega, by omega, fun x hx => i3 x (List.mem_cons_of_mem _ hx)⟩
      · have c3 : ¬ ([ltr b t] = [ltr b one]) := by simpa using c2
        refine ⟨?_, ?_⟩
        · simp only [fnSem, rho0, outW_rt, outW_nx, gSeq, Vd.gNil, gDo, gRet, gSet, gOwn, gIf, gAsg, gFrz, gKill, gThenKill, gThenFrz, gApp, gExt, gEx, nLst, fOt, otw, f1, f2, fT, fAnd, fOr, fNot, fAndV, fOrV, fNotV, fIf, fCal, aNil, aCons, fTup, fSl, oNo, oSo, fChain, fV, fO, fC, iVal, iL, setF, setO, nG, tupG, consG, nilG, killAt, frzAt, fzS, nDisp1T, fS1, cYes, unlG, bindok, bindex, bindno, noEx_ok, tb_bv, asDat_dat, asDat_wC, asDat_wI, asDat_bv, asDat_wR, asDat_wS, asDat_wN, pds_nil, pds_dat, pds_wI, pds_wC, pds_wR, pds_bv, asI_I, pAdd_I, pSub_I, pCmp_I, pNeg_I, List.map_cons, List.map_nil, List.length_cons, List.length_nil, List.replicate_succ, List.replicate_zero, List.cons_append, List.nil_append, List.getElem?_cons_zero, List.getElem?_cons_succ, List.getD_cons_zero, List.getD_cons_succ, List.set_cons_zero, List.set_cons_succ, Nat.reduceAdd, Nat.reduceSub, Nat.reduceLT, Nat.reduceLeDiff, Nat.zero_lt_succ, if_true, if_false, Bool.false_eq_true, decide_true, decide_false, Bool.not_true, Bool.not_false, Bool.true_and, Bool.and_true, reduceIte, reduceCtorEq, Bool.true_eq_false, Bool.false_eq_true, not_true_eq_false, not_false_eq_true, fits0, fits1, fits2, fits3, fits4, pLen_B, pLen_Cs, pLen_C, pGet_C0, pGet_C1, pGet_K0, pGet_K1, pGet_Cs0, pEq_I, pEq_C, pEq_Cs, pEq_bl, pIn_Cs, pIn_D, items_Cs, items_B, items_R, stS, c1, c2, c3, g.get2 ht, g.get2 h1, e1, okk, and_false]
        · rw [if_neg (fun q => c2 (by simpa [okk] using q.2))]; exact ⟨by omega, by omega, fun x hx => i3 x (List.mem_cons_of_mem _ hx)⟩
theorem bH_len {b : Bd} {k : Int} {one : C2} (s : Fd C2 × List C2) (h : C2) : (bH (nbk b k) (okk b one) s h).1.length ≤ s.1.length + 8 ∧ (bH (nbk b k) (okk b one) s h).2.length ≤ s.2.length + 8 := by
  unfold bH
  have := bT_len (ok := okk b one) (h := h) (nbk b k h) s
  have := near_len b h k
  unfold nbk at *; omega
theorem D_spread_layer {b : Bd} (g : Good b) {k : Int} (hk : k = 4 ∨ k = 8) {one : C2} (h1 : ins b one = true) (row : List C2) (f : Fd C2) (hf : f.length ≤ 64) (hr : row.length ≤ 64) :
    (gFor (iVal (fV 4)) (nG 6) (gThenKill [6, 7] (gKill [7] (gFor (iVal (fCal F_near (aCons (fV 0) (aCons (fV 6) (aCons (fV 2) aNil))))) (nG 7) (gThenKill [7] (gIf (fAnd (fT (f2 (pInW true) (fO 7) (fO 3))) (fT (f2 (pEq false) (f2 pGet (f2 pGet (fO 0) (f2 pGet (fO 7) (fC (wI 0)))) (f2 pGet (fO 7) (fC (wI 1)))) (f2 pGet (f2 pGet (fO 0) (f2 pGet (fO 1) (fC (wI 0)))) (f2 pGet (fO 1) (fC (wI 1))))))) (gSeq (gPut 3 (fV 7) (fV 6)) (gApp 5 (fV 7))) Vd.gNil))))) (stS b k one row .un (f, [])))
      = .ok (.nx (stS b k one row .un (bL (nbk b k) (okk b one) f row))) := by
  unfold bL
  rw [gFor_inv wC row (stS b k one row .un) (bH (nbk b k) (okk b one)) (fun l s => s.1.length + 8 * l.length ≤ 900 ∧ s.2.length + 8 * l.length ≤ 900) (f, [])]
  · simp only [fnSem, rho0, outW_rt, outW_nx, gSeq, Vd.gNil, gDo, gRet, gSet, gOwn, gIf, gAsg, gFrz, gKill, gThenKill, gThenFrz, gApp, gExt, gEx, nLst, fOt, otw, f1, f2, fT, fAnd, fOr, fNot, fAndV, fOrV, fNotV, fIf, fCal, aNil, aCons, fTup, fSl, oNo, oSo, fChain, fV, fO, fC, iVal, iL, setF, setO, nG, tupG, consG, nilG, killAt, frzAt, fzS, nDisp1T, fS1, cYes, unlG, bindok, bindex, bindno, noEx_ok, tb_bv, asDat_dat, asDat_wC, asDat_wI, asDat_bv, asDat_wR, asDat_wS, asDat_wN, pds_nil, pds_dat, pds_wI, pds_wC, pds_wR, pds_bv, asI_I, pAdd_I, pSub_I, pCmp_I, pNeg_I, List.map_cons, List.map_nil, List.length_cons, List.length_nil, List.replicate_succ, List.replicate_zero, List.cons_append, List.nil_append, List.getElem?_cons_zero, List.getElem?_cons_succ, List.getD_cons_zero, List.getD_cons_succ, List.set_cons_zero, List.set_cons_succ, Nat.reduceAdd, Nat.reduceSub, Nat.reduceLT, Nat.reduceLeDiff, Nat.zero_lt_succ, if_true, if_false, Bool.false_eq_true, decide_true, decide_false, Bool.not_true, Bool.not_false, Bool.true_and, Bool.and_true, reduceIte, reduceCtorEq, Bool.true_eq_false, Bool.false_eq_true, not_true_eq_false, not_false_eq_true, fits0, fits1, fits2, fits3, fits4, pLen_B, pLen_Cs, pLen_C, pGet_C0, pGet_C1, pGet_K0, pGet_K1, pGet_Cs0, pEq_I, pEq_C, pEq_Cs, pEq_bl, pIn_Cs, pIn_D, items_Cs, items_B, items_R, stS]
  · rfl
  · simp only [List.length_nil]; omega
  · intro h r s ⟨i1, i2⟩
    simp only [List.length_cons] at i1 i2
    have e := D_spread_in g hk h1 row h s ⟨by omega, by omega⟩
    have e3 := bH_len (b := b) (k := k) (one := one) s h
    refine ⟨?_, by omega, by omega⟩
    unfold stS at e ⊢
    simp only [fnSem, rho0, outW_rt, outW_nx, gSeq, Vd.gNil, gDo, gRet, gSet, gOwn, gIf, gAsg, gFrz, gKill, gThenKill, gThenFrz, gApp, gExt, gEx, nLst, fOt, otw, f1, f2, fT, fAnd, fOr, fNot, fAndV, fOrV, fNotV, fIf, fCal, aNil, aCons, fTup, fSl, oNo, oSo, fChain, fV, fO, fC, iVal, iL, setF, setO, nG, tupG, consG, nilG, killAt, frzAt, fzS, nDisp1T, fS1, cYes, unlG, bindok, bindex, bindno, noEx_ok, tb_bv, asDat_dat, asDat_wC, asDat_wI, asDat_bv, asDat_wR, asDat_wS, asDat_wN, pds_nil, pds_dat, pds_wI, pds_wC, pds_wR, pds_bv, asI_I, pAdd_I, pSub_I, pCmp_I, pNeg_I, List.map_cons, List.map_nil, List.length_cons, List.length_nil, List.replicate_succ, List.replicate_zero, List.cons_append, List.nil_append, List.getElem?_cons_zero, List.getElem?_cons_succ, List.getD_cons_zero, List.getD_cons_succ, List.set_cons_zero, List.set_cons_succ, Nat.reduceAdd, Nat.reduceSub, Nat.reduceLT, Nat.reduceLeDiff, Nat.zero_lt_succ, if_true, if_false, Bool.false_eq_true, decide_true, decide_false, Bool.not_true, Bool.not_false, Bool.true_and, Bool.and_true, reduceIte, reduceCtorEq, Bool.true_eq_false, Bool.false_eq_true, not_true_eq_false, not_false_eq_true, fits0, fits1, fits2, fits3, fits4, pLen_B, pLen_Cs, pLen_C, pGet_C0, pGet_C1, pGet_K0, pGet_K1, pGet_Cs0, pEq_I, pEq_C, pEq_Cs, pEq_bl, pIn_Cs, pIn_D, items_Cs, items_B, items_R, e]
theorem bL_len {b : Bd} {k : Int} {one : C2} (f : Fd C2) (row : List C2) (nd : (keys f).Nodup) : (bL (nbk b k) (okk b one) f row).1.length = f.length + (bL (nbk b k) (okk b one) f row).2.length := bL_grow nd row
theorem allC_mem {b : Bd} {c : C2} : c ∈ allC b ↔ ins b c = true := by
  rw [ins_iff]
  unfold allC rowC
  rw [List.mem_flatMap]
  constructor
  · rintro ⟨i, h1, h2⟩
    obtain ⟨j, h3, rfl⟩ := List.mem_map.mp h2
    rw [List.mem_range] at h1 h3
    exact ⟨by simp, by simp; omega, by simp, by simp; omega⟩
  · rintro ⟨h1, h2, h3, h4⟩
    refine ⟨c.1.toNat, by rw [List.mem_range]; omega, List.mem_map.mpr ⟨c.2.toNat, by rw [List.mem_range]; omega, ?_⟩⟩
    exact Prod.ext (by simp; omega) (by simp; omega)
theorem flat_len {α β : Type} (f : α → List β) (n : Nat) : ∀ l : List α, (∀ a ∈ l, (f a).length = n) → (l.flatMap f).length = l.length * n
  | [], _ => by simp
  | a :: l, h => by
    rw [List.flatMap_cons, List.length_append, h a List.mem_cons_self, flat_len f n l fun x hx => h x (List.mem_cons_of_mem _ hx), List.length_cons, Nat.succ_mul]; omega
theorem allC_len {b : Bd} (g : Good b) : (allC b).length ≤ 64 := by
  unfold allC
  rw [flat_len _ (wd b) _ fun a _ => rowC_len b a, List.length_range]
  have := Nat.mul_le_mul g.h8 g.w8
  omega
theorem Rch_ins {b : Bd} {k : Int} {one c : C2} (h1 : ins b one = true) {n : Nat} (h : Rch (nbk b k) (okk b one) one n c) : ins b c = true := by
  cases h with
  | zero => exact h1
  | succ _ h2 _ => exact near_ins h2
theorem Inv.len {b : Bd} (g : Good b) {k : Int} {one : C2} (h1 : ins b one = true) {m : Nat} {f : Fd C2} {row : List C2} (I : Bf.Inv (nbk b k) (okk b one) one m f row) : f.length ≤ 64 := by
  have h4 : (keys f).length ≤ (allC b).length := nodup_le I.nd fun c hc => by
    obtain ⟨j, _, hj⟩ := I.a c hc
    exact allC_mem.mpr (Rch_ins h1 hj)
  unfold keys at h4
  rw [List.length_map] at h4
  have := allC_len g
  omega
def stW (b : Bd) (k : Int) (one : C2) (f : Fd C2) (row : List C2) : Rho := [.fz (wB b), .fz (wC one), .fz (wI k), .ow (.dT (dCs pO f)), .fz (wCs row), .un, .un, .un]
theorem while_bfs {b : Bd} (g : Good b) {k : Int} {one : C2} (h1 : ins b one = true) {t : Rho → R Bool} {body : Rho → R Out} (ht : ∀ f row, t (stW b k one f row) = .ok (decide (¬ row = [])))
    (hb : ∀ f row, f.length ≤ 64 → row.length ≤ 64 → body (stW b k one f row) = .ok (.nx (stW b k one (bL (nbk b k) (okk b one) f row).1 (bL (nbk b k) (okk b one) f row).2))) :
    ∀ (n m : Nat) (f : Fd C2) (row : List C2), Bf.Inv (nbk b k) (okk b one) one m f row → row.length ≤ 64 → (if row = [] then 1 else 64 - f.length + 2) ≤ n → whileS t body n (stW b k one f row) = .ok (.nx (stW b k one (bS (nbk b k) (okk b one) n f row) []))
  | 0, m, f, row, I, hr, h => by split at h <;> omega
  | n + 1, m, f, row, I, hr, h => by
    unfold whileS bS
    rw [ht, bindok]
    by_cases e : row = []
    · subst e; simp
    · rw [if_neg e] at h
      rw [if_neg e, if_pos (by simp [e]), hb f row (Inv.len g h1 I) hr, bindok]
      have I2 := I.step
      have hg := bL_grow (nb := nbk b k) (ok := okk b one) I.nd row
      have hl := Inv.len g h1 I2
      refine while_bfs g h1 ht hb n (m + 1) _ _ I2 (by omega) ?_
      by_cases e2 : (bL (nbk b k) (okk b one) f row).2 = []
      · rw [if_pos e2]; omega
      · rw [if_neg e2]
        have h3 : 0 < (bL (nbk b k) (okk b one) f row).2.length := List.length_pos_iff.mpr e2
        omega
def spread (b : Bd) (k : Int) (one : C2) : Fd C2 := bS (nbk b k) (okk b one) 66 [(one, none)] [one]
theorem spread_fin {b : Bd} (g : Good b) (k : Int) {one : C2} (h1 : ins b one = true) : Bf.Fin (nbk b k) (okk b one) one (spread b k one) := by
  refine bS_fin (cs := allC b) (fun c ⟨j, hj⟩ => allC_mem.mpr (Rch_ins h1 hj)) 66 0 _ _ (Inv.start one) ?_
  have := allC_len g
  rw [if_neg (by simp)]; omega
theorem D_spread {b : Bd} (g : Good b) {k : Int} (hk : k = 4 ∨ k = 8) {one : C2} (h1 : ins b one = true) : F_spread [wB b, wC one, wI k] = .ok (wD (spread b k one)) := by
  have hd : nDisp1T (fV 1) (fC (.dat .none)) [.fz (wB b), .fz (wC one), .fz (wI k), .un, .un, .un, .un, .un] = .ok (.dT (dCs pO [(one, none)])) := by
    simp only [fnSem, rho0, outW_rt, outW_nx, gSeq, Vd.gNil, gDo, gRet, gSet, gOwn, gIf, gAsg, gFrz, gKill, gThenKill, gThenFrz, gApp, gExt, gEx, nLst, fOt, otw, f1, f2, fT, fAnd, fOr, fNot, fAndV, fOrV, fNotV, fIf, fCal, aNil, aCons, fTup, fSl, oNo, oSo, fChain, fV, fO, fC, iVal, iL, setF, setO, nG, tupG, consG, nilG, killAt, frzAt, fzS, nDisp1T, fS1, cYes, unlG, bindok, bindex, bindno, noEx_ok, tb_bv, asDat_dat, asDat_wC, asDat_wI, asDat_bv, asDat_wR, asDat_wS, asDat_wN, pds_nil, pds_dat, pds_wI, pds_wC, pds_wR, pds_bv, asI_I, pAdd_I, pSub_I, pCmp_I, pNeg_I, List.map_cons, List.map_nil, List.length_cons, List.length_nil, List.replicate_succ, List.replicate_zero, List.cons_append, List.nil_append, List.getElem?_cons_zero, List.getElem?_cons_succ, List.getD_cons_zero, List.getD_cons_succ, List.set_cons_zero, List.set_cons_succ, Nat.reduceAdd, Nat.reduceSub, Nat.reduceLT, Nat.reduceLeDiff, Nat.zero_lt_succ, if_true, if_false, Bool.false_eq_true, decide_true, decide_false, Bool.not_true, Bool.not_false, Bool.true_and, Bool.and_true, reduceIte, reduceCtorEq, Bool.true_eq_false, Bool.false_eq_true, not_true_eq_false, not_false_eq_true, fits0, fits1, fits2, fits3, fits4, pLen_B, pLen_Cs, pLen_C, pGet_C0, pGet_C1, pGet_K0, pGet_K1, pGet_Cs0, pEq_I, pEq_C, pEq_Cs, pEq_bl, pIn_Cs, pIn_D, items_Cs, items_B, items_R, keyT_C]; rfl
  simp only [fnSem, rho0, outW_rt, outW_nx, gSeq, Vd.gNil, gDo, gRet, gSet, gOwn, gIf, gAsg, gFrz, gKill, gThenKill, gThenFrz, gApp, gExt, gEx, nLst, fOt, otw, f1, f2, fT, fAnd, fOr, fNot, fAndV, fOrV, fNotV, fIf, fCal, aNil, aCons, fTup, fSl, oNo, oSo, fChain, fV, fO, fC, iVal, iL, setF, setO, nG, tupG, consG, nilG, killAt, frzAt, fzS, fS1, cYes, unlG, bindok, bindex, bindno, noEx_ok, tb_bv, asDat_dat, asDat_wC, asDat_wI, asDat_bv, asDat_wR, asDat_wS, asDat_wN, pds_nil, pds_dat, pds_wI, pds_wC, pds_wR, pds_bv, asI_I, pAdd_I, pSub_I, pCmp_I, pNeg_I, List.map_cons, List.map_nil, List.length_cons, List.length_nil, List.replicate_succ, List.replicate_zero, List.cons_append, List.nil_append, List.getElem?_cons_zero, List.getElem?_cons_succ, List.getD_cons_zero, List.getD_cons_succ, List.set_cons_zero, List.set_cons_succ, Nat.reduceAdd, Nat.reduceSub, Nat.reduceLT, Nat.reduceLeDiff, Nat.zero_lt_succ, if_true, if_false, Bool.false_eq_true, decide_true, decide_false, Bool.not_true, Bool.not_false, Bool.true_and, Bool.and_true, reduceIte, reduceCtorEq, Bool.true_eq_false, Bool.false_eq_true, not_true_eq_false, not_false_eq_true, fits0, fits1, fits2, fits3, fits4, pLen_B, pLen_Cs, pLen_C, pGet_C0, pGet_C1, pGet_K0, pGet_K1, pGet_Cs0, pEq_I, pEq_C, pEq_Cs, pEq_bl, pIn_Cs, pIn_D, items_Cs, items_B, items_R, F_spread, g_spread, hd]
  show (((R.bind (gWhile _ _ (stW b k one [(one, none)] [one])) _).bind _) : R W) = _
  rw [gWhile_of (while_bfs g h1 ?ht ?hb 66 0 [(one, none)] [one] (Inv.start one) (by simp) (by simp)) (fun h => nomatch h)]
  · simp only [fnSem, rho0, outW_rt, outW_nx, gSeq, Vd.gNil, gDo, gRet, gSet, gOwn, gIf, gAsg, gFrz, gKill, gThenKill, gThenFrz, gApp, gExt, gEx, nLst, fOt, otw, f1, f2, fT, fAnd, fOr, fNot, fAndV, fOrV, fNotV, fIf, fCal, aNil, aCons, fTup, fSl, oNo, oSo, fChain, fV, fO, fC, iVal, iL, setF, setO, nG, tupG, consG, nilG, killAt, frzAt, fzS, nDisp1T, fS1, cYes, unlG, bindok, bindex, bindno, noEx_ok, tb_bv, asDat_dat, asDat_wC, asDat_wI, asDat_bv, asDat_wR, asDat_wS, asDat_wN, pds_nil, pds_dat, pds_wI, pds_wC, pds_wR, pds_bv, asI_I, pAdd_I, pSub_I, pCmp_I, pNeg_I, List.map_cons, List.map_nil, List.length_cons, List.length_nil, List.replicate_succ, List.replicate_zero, List.cons_append, List.nil_append, List.getElem?_cons_zero, List.getElem?_cons_succ, List.getD_cons_zero, List.getD_cons_succ, List.set_cons_zero, List.set_cons_succ, Nat.reduceAdd, Nat.reduceSub, Nat.reduceLT, Nat.reduceLeDiff, Nat.zero_lt_succ, if_true, if_false, Bool.false_eq_true, decide_true, decide_false, Bool.not_true, Bool.not_false, Bool.true_and, Bool.and_true, reduceIte, reduceCtorEq, Bool.true_eq_false, Bool.false_eq_true, not_true_eq_false, not_false_eq_true, fits0, fits1, fits2, fits3, fits4, pLen_B, pLen_Cs, pLen_C, pGet_C0, pGet_C1, pGet_K0, pGet_K1, pGet_Cs0, pEq_I, pEq_C, pEq_Cs, pEq_bl, pIn_Cs, pIn_D, items_Cs, items_B, items_R, stW]; rfl
  case ht =>
    intro f row
    have e0 : W.dat (PyData.list []) = wCs [] := rfl
    simp only [fnSem, rho0, outW_rt, outW_nx, gSeq, Vd.gNil, gDo, gRet, gSet, gOwn, gIf, gAsg, gFrz, gKill, gThenKill, gThenFrz, gApp, gExt, gEx, nLst, fOt, otw, f1, f2, fT, fAnd, fOr, fNot, fAndV, fOrV, fNotV, fIf, fCal, aNil, aCons, fTup, fSl, oNo, oSo, fChain, fV, fO, fC, iVal, iL, setF, setO, nG, tupG, consG, nilG, killAt, frzAt, fzS, nDisp1T, fS1, cYes, unlG, bindok, bindex, bindno, noEx_ok, tb_bv, asDat_dat, asDat_wC, asDat_wI, asDat_bv, asDat_wR, asDat_wS, asDat_wN, pds_nil, pds_dat, pds_wI, pds_wC, pds_wR, pds_bv, asI_I, pAdd_I, pSub_I, pCmp_I, pNeg_I, List.map_cons, List.map_nil, List.length_cons, List.length_nil, List.replicate_succ, List.replicate_zero, List.cons_append, List.nil_append, List.getElem?_cons_zero, List.getElem?_cons_succ, List.getD_cons_zero, List.getD_cons_succ, List.set_cons_zero, List.set_cons_succ, Nat.reduceAdd, Nat.reduceSub, Nat.reduceLT, Nat.reduceLeDiff, Nat.zero_lt_succ, if_true, if_false, Bool.false_eq_true, decide_true, decide_false, Bool.not_true, Bool.not_false, Bool.true_and, Bool.and_true, reduceIte, reduceCtorEq, Bool.true_eq_false, Bool.false_eq_true, not_true_eq_false, not_false_eq_true, fits0, fits1, fits2, fits3, fits4, pLen_B, pLen_Cs, pLen_C, pGet_C0, pGet_C1, pGet_K0, pGet_K1, pGet_Cs0, pEq_I, pEq_C, pEq_Cs, pEq_bl, pIn_Cs, pIn_D, items_Cs, items_B, items_R, stW, e0]
  case hb =>
    intro f row hf hr
    have e := D_spread_layer g hk h1 row f hf hr
    unfold stS at e
    simp only [List.map_nil] at e
    simp only [fnSem, rho0, outW_rt, outW_nx, gSeq, Vd.gNil, gDo, gRet, gSet, gOwn, gIf, gAsg, gFrz, gKill, gThenKill, gThenFrz, gApp, gExt, gEx, nLst, fOt, otw, f1, f2, fT, fAnd, fOr, fNot, fAndV, fOrV, fNotV, fIf, fCal, aNil, aCons, fTup, fSl, oNo, oSo, fChain, fV, fO, fC, iVal, iL, setF, setO, nG, tupG, consG, nilG, killAt, frzAt, fzS, nDisp1T, fS1, cYes, unlG, bindok, bindex, bindno, noEx_ok, tb_bv, asDat_dat, asDat_wC, asDat_wI, asDat_bv, asDat_wR, asDat_wS, asDat_wN, pds_nil, pds_dat, pds_wI, pds_wC, pds_wR, pds_bv, asI_I, pAdd_I, pSub_I, pCmp_I, pNeg_I, List.map_cons, List.map_nil, List.length_cons, List.length_nil, List.replicate_succ, List.replicate_zero, List.cons_append, List.nil_append, List.getElem?_cons_zero, List.getElem?_cons_succ, List.getD_cons_zero, List.getD_cons_succ, List.set_cons_zero, List.set_cons_succ, Nat.reduceAdd, Nat.reduceSub, Nat.reduceLT, Nat.reduceLeDiff, Nat.zero_lt_succ, if_true, if_false, Bool.false_eq_true, decide_true, decide_false, Bool.not_true, Bool.not_false, Bool.true_and, Bool.and_true, reduceIte, reduceCtorEq, Bool.true_eq_false, Bool.false_eq_true, not_true_eq_false, not_false_eq_true, fits0, fits1, fits2, fits3, fits4, pLen_B, pLen_Cs, pLen_C, pGet_C0, pGet_C1, pGet_K0, pGet_K1, pGet_Cs0, pEq_I, pEq_C, pEq_Cs, pEq_bl, pIn_Cs, pIn_D, items_Cs, items_B, items_R, stW, e]
    rfl
end Cp


/-! D3: patches, ways, fences on encoded boards. -/
namespace Cp

open L2 PyProof.Rows PySem PySem.Spec Vd Bf

noncomputable def srtC (l : List C2) : List C2 := l.mergeSort fun a b => leD (pC a) (pC b)
theorem srtC_mem {l : List C2} {c : C2} : c ∈ srtC l ↔ c ∈ l := List.mem_mergeSort
theorem srtC_len (l : List C2) : (srtC l).length = l.length := List.length_mergeSort ..
theorem srt_pC (l : List C2) : sortD (l.map pC) = (srtC l).map pC := by
  unfold sortD srtC
  rw [List.map_mergeSort]
  intro a _ b _; rfl
theorem okS_C (l : List C2) (h : l.length ≤ sizeLine) : okS (l.map pC) := by
  refine ⟨fun d hd d' hd' => ?_, .inl fun d hd => ?_, fun d hd => ?_, by rw [List.length_map]; exact h⟩
  · obtain ⟨c, _, rfl⟩ := List.mem_map.mp hd
    obtain ⟨c', _, rfl⟩ := List.mem_map.mp hd'
    simp [pC, PySem.W.alike, PySem.W.alikeAll]
  · obtain ⟨c, _, rfl⟩ := List.mem_map.mp hd
    exact ⟨_, _, rfl⟩
  · obtain ⟨c, _, rfl⟩ := List.mem_map.mp hd
    have := dep_C c; omega
theorem pSorted_Cs (l : List C2) (h : l.length ≤ sizeLine) : pSorted [wCs l] = .ok (wCs (srtC l)) := by
  show (if okS (l.map pC) then R.ok (W.dat (.list (sortD (l.map pC)))) else .no) = _
  rw [if_pos (okS_C l h), srt_pC]; rfl
theorem pSorted_D {α : Type} (e : α → Pd) (f : List (C2 × α)) (h : f.length ≤ sizeLine) : pSorted [.dT (dCs e f)] = .ok (wCs (srtC (f.map (·.1)))) := by
  have e1 : (dCs e f).map (fun p => keyTP p.1) = (f.map (·.1)).map pC := by
    unfold dCs; rw [List.map_map, List.map_map]; rfl
  show (if okS ((dCs e f).map fun p => keyTP p.1) then R.ok (W.dat (.list (sortD ((dCs e f).map fun p => keyTP p.1)))) else .no) = _
  rw [e1, if_pos (okS_C _ (by rw [List.length_map]; exact h)), srt_pC]; rfl
section

variable {b : Bd} (g : Good b) {k : Int} (hk : k = 4 ∨ k = 8) {one other : C2} (h1 : ins b one = true) (h2 : ins b other = true)

include g h1 in
theorem spread_len : (spread b k one).length ≤ 64 := by
  have F := spread_fin g k h1
  have h4 : (keys (spread b k one)).length ≤ (allC b).length := nodup_le F.nd fun c hc => by
    obtain ⟨j, hj⟩ := (F.iff c).mp hc
    exact allC_mem.mpr (Rch_ins h1 hj)
  unfold keys at h4
  rw [List.length_map] at h4
  have := allC_len g
  omega
noncomputable def patch (b : Bd) (k : Int) (one : C2) : List C2 := srtC (keys (spread b k one))
include g hk h1 in
theorem D_patch_of : F_patch_of [wB b, wC one, wI k] = .ok (wCs (patch b k one)) := by
  have hl : (spread b k one).length ≤ sizeLine := by have := spread_len g (k := k) h1; unfold sizeLine; omega
  simp only [fnSem, rho0, outW_rt, outW_nx, gSeq, Vd.gNil, gDo, gRet, gSet, gOwn, gIf, gAsg, gFrz, gKill, gThenKill, gThenFrz, gApp, gExt, gEx, nLst, fOt, otw, f1, f2, fT, fAnd, fOr, fNot, fAndV, fOrV, fNotV, fIf, fCal, aNil, aCons, fTup, fSl, oNo, oSo, fChain, fV, fO, fC, iVal, iL, setF, setO, nG, tupG, consG, nilG, killAt, frzAt, fzS, nDisp1T, fS1, cYes, unlG, bindok, bindex, bindno, noEx_ok, tb_bv, asDat_dat, asDat_wC, asDat_wI, asDat_bv, asDat_wR, asDat_wS, asDat_wN, pds_nil, pds_dat, pds_wI, pds_wC, pds_wR, pds_bv, asI_I, pAdd_I, pSub_I, pCmp_I, pNeg_I, List.map_cons, List.map_nil, List.length_cons, List.length_nil, List.replicate_succ, List.replicate_zero, List.cons_append, List.nil_append, List.getElem?_cons_zero, List.getElem?_cons_succ, List.getD_cons_zero, List.getD_cons_succ, List.set_cons_zero, List.set_cons_succ, Nat.reduceAdd, Nat.reduceSub, Nat.reduceLT, Nat.reduceLeDiff, Nat.zero_lt_succ, if_true, if_false, Bool.false_eq_true, decide_true, decide_false, Bool.not_true, Bool.not_false, Bool.true_and, Bool.and_true, reduceIte, reduceCtorEq, Bool.true_eq_false, Bool.false_eq_true, not_true_eq_false, not_false_eq_true, fits0, fits1, fits2, fits3, fits4, pLen_B, pLen_Cs, pLen_C, pGet_C0, pGet_C1, pGet_K0, pGet_K1, pGet_Cs0, pEq_I, pEq_C, pEq_Cs, pEq_bl, pIn_Cs, pIn_D, items_Cs, items_B, items_R, F_patch_of, g_patch_of, D_need_board g, D_need_cell g h1, D_need_ways hk, D_spread g hk h1, wD, pSorted_D pO _ hl]
  rfl
def wOp : Option (List C2) → W
  | none => wN
  | some l => wCs l
def way (b : Bd) (k : Int) (one other : C2) : Option (List C2) := if other ∈ keys (spread b k one) then some (bW (spread b k one) one 70 [other]) else none
def stY (b : Bd) (k : Int) (one other : C2) (row : List C2) : Rho := [.fz (wB b), .fz (wI k), .fz (wC one), .fz (wC other), .fz (wD (spread b k one)), .fz (wCs row)]
theorem way_while {t : Rho → R Bool} {body : Rho → R Out} (F : Bf.Fin (nbk b k) (okk b one) one (spread b k one)) (ht : ∀ c r, t (stY b k one other (c :: r)) = .ok (decide (¬ c = one)))
    (hb : ∀ c r q, r.length ≤ 200 → lkC (spread b k one) c = some (some q) → body (stY b k one other (c :: r)) = .ok (.nx (stY b k one other (q :: c :: r)))) :
    ∀ (j n : Nat) (c : C2) (r : List C2), Dist (nbk b k) (okk b one) one j c → j < n → r.length + j ≤ 200 → whileS t body n (stY b k one other (c :: r)) = .ok (.nx (stY b k one other (bW (spread b k one) one n (c :: r))))
  | 0, 0, c, r, d, h, hr => by omega
  | 0, n + 1, c, r, d, h, hr => by
    have e := d.1.zero_eq
    subst e
    unfold whileS bW
    rw [ht, bindok]; simp
  | j + 1, 0, c, r, d, h, hr => by omega
  | j + 1, n + 1, c, r, d, h, hr => by
    have hne : c ≠ one := fun e => by subst e; exact d.2 0 (by omega) .zero
    obtain ⟨o, e1, e2⟩ := find_mem ((F.iff c).mpr ⟨_, d.1⟩)
    rcases F.mem_none e2 with ⟨q, _⟩ | ⟨_, q, rfl⟩
    · exact (hne q).elim
    obtain ⟨i, q1, q2, q3, q4⟩ := F.p c q e2
    have hi : i = j := by have := q2.uniq d; omega
    subst hi
    have ih := way_while F ht hb i n q (c :: r) q1 (by omega) (by simp only [List.length_cons]; omega)
    unfold whileS bW
    rw [ht, bindok, if_pos (by simp [hne]), hb c r q (by omega) e1, bindok]
    simp only [if_neg hne, e1]
    exact ih
theorem dist_le (g : Good b) (h1 : ins b one = true) {j : Nat} {c : C2} (d : Dist (nbk b k) (okk b one) one j c) : j < 64 := by
  -- as many cells as steps
  have F := spread_fin g k h1
  have h0 : ∀ j c, Dist (nbk b k) (okk b one) one j c → ∀ i, i ≤ j → ∃ d, Dist (nbk b k) (okk b one) one i d := by
    intro j
    induction j with
    | zero => intro c hd i hi; exact ⟨c, by rw [show i = 0 by omega]; exact hd⟩
    | succ j ih =>
      intro c hd i hi
      rcases Nat.lt_or_ge j i with q | q
      · exact ⟨c, by rw [show i = j + 1 by omega]; exact hd⟩
      · obtain ⟨o, e1, e2⟩ := find_mem ((F.iff c).mpr ⟨_, hd.1⟩)
        rcases F.mem_none e2 with ⟨q, _⟩ | ⟨_, p, rfl⟩
        · subst q; exact (hd.2 0 (by omega) .zero).elim
        · obtain ⟨m, q1, q2, _⟩ := F.p c p e2
          have hm : m = j := by have := q2.uniq hd; omega
          subst hm
          exact ih p q1 i q
  have hx : ∀ i, ∃ d, i ≤ j → Dist (nbk b k) (okk b one) one i d := fun i => by
    by_cases q : i ≤ j
    · obtain ⟨e, he⟩ := h0 j c d i q; exact ⟨e, fun _ => he⟩
    · exact ⟨c, fun q2 => (q q2).elim⟩
  let f : Nat → C2 := fun i => Classical.choose (hx i)
  have hf : ∀ i, i ≤ j → Dist (nbk b k) (okk b one) one i (f i) := fun i => Classical.choose_spec (hx i)
  have hnd : ((List.range (j + 1)).map f).Nodup := by
    unfold List.Nodup
    rw [List.pairwise_map]
    refine List.Pairwise.imp_of_mem (fun {a c} ha hc hlt => ?_) List.nodup_range
    rw [List.mem_range] at ha hc
    intro e
    have h5 := hf a (by omega)
    rw [e] at h5
    exact hlt (h5.uniq (hf c (by omega)))
  have := nodup_le hnd (m := allC b) fun x hx2 => by
    obtain ⟨i, h3, rfl⟩ := List.mem_map.mp hx2
    rw [List.mem_range] at h3
    exact allC_mem.mpr (Rch_ins h1 (hf i (by omega)).1)
  rw [List.length_map, List.length_range] at this
  have := allC_len g
  omega
theorem bW_nil_free {f : Fd C2} {one : C2} : ∀ (n : Nat) (row : List C2), row ≠ [] → bW f one n row ≠ []
  | 0, row, h => h
  | n + 1, [], h => h
  | n + 1, c :: r, h => by
    unfold bW
    simp only
    split
    · exact h
    · split
      · exact bW_nil_free n _ (by simp)
      · exact h
theorem wCs_nil : W.dat (PyData.list []) = wCs [] := rfl
theorem pSl_tail (l : List C2) : pSl (wCs l) (some 1) none = .ok (wCs (l.drop 1)) := by
  show R.ok (W.dat (.list (Vd.cutD (l.map pC) (some 1) none))) = R.ok (W.dat (.list ((l.drop 1).map pC)))
  rw [List.map_drop]
  congr 3
  unfold Vd.cutD HT.sIx
  cases l with
  | nil => rfl
  | cons a r =>
    simp only [List.map_cons, List.length_cons, List.length_map]
    rw [if_neg (by omega), show min (1 : Int).toNat (r.length + 1) = 1 by simp]
    simp only [List.drop_succ_cons, List.drop_zero]
    rw [List.take_of_length_le (by simp)]
/-- what a way is -/
structure IsWay (b : Bd) (k : Int) (one other : C2) (l : List C2) : Prop where
  len : l.length ≤ 1000
  hd : l.head? = some one
  lst : l.getLast? = some other
  ins : ∀ c ∈ l, ins b c = true
  ltr : ∀ c ∈ l, ltr b c = ltr b one
  nxt : ∀ p ∈ l.zip (l.drop 1), p.2 ∈ near b p.1 k
end

end Cp


/-! D4: what is drawn of a script. -/
namespace Cp

open L2 PyProof.Rows PySem PySem.Spec Vd Bf

def pX (xs : List Int) : Pd := .list (xs.map .int)
def wX (xs : List Int) : W := .kdat (pX xs)
def lawCell (xs : List Int) (k : Int) : Int := if xs = [] then 7 * k else xs.getD (k % xs.length).toNat 0 + 6553 * (k / xs.length)
def h1 (xs : List Int) (k : Int) : Int := (lawCell xs k % 2147483563 * 69069 + 104723 * (k + 1)) % 2147483563
def h2 (xs : List Int) (k : Int) : Int := (h1 xs k * h1 xs k + h1 xs k / 3) % 2147483399
def drawn (xs : List Int) (k many : Int) : Int := (h2 xs k * h2 xs k + h2 xs k / 7) % 2147483647 / 11 % many
theorem drawn_bd (xs : List Int) (k : Int) {many : Int} (h : 0 < many) : 0 ≤ drawn xs k many ∧ drawn xs k many < many := ⟨Int.emod_nonneg _ (by omega), Int.emod_lt_of_pos _ h⟩
theorem sh_X (xs : List Int) : SeqAt.shaped (pX xs) = true := sh_mk (by simp only [pX, PyData.canLay0]; exact layAll_map _ xs fun a _ => by simp [PyData.canLay0]) (by simp only [pX, PyData.depth]; have h : PyData.depthAll (xs.map PyData.int) ≤ 0 := depthAll_map PyData.int 0 (fun i => by simp [PyData.depth]) xs; omega)
theorem pEq_X (xs : List Int) : pEq false (wX xs) (.dat (.list [])) = .ok (bv (decide (xs = []))) := by
  have e : pEq false (wX xs) (.dat (.list [])) = pEq false (.dat (pX xs)) (.dat (pX [])) := rfl
  rw [e]
  refine (pEq_mk (n := false) (p := xs = []) (sh_X xs) (sh_X []) ?_)
  cases xs <;> simp [pX, PyData.eqv, PyData.eqvAll]
theorem pLen_X (xs : List Int) : pLen [wX xs] = .ok (wI xs.length) := by simp [pLen, wX, pX]
theorem pGet_X (l : List Int) (i : Int) (h0 : 0 ≤ i) (h : i < l.length) : pGet (wX l) (wI i) = .ok (wI (l.getD i.toNat 0)) := by
  show optW kw (atI (l.map PyData.int) i) = _
  rw [atI_pos h0 (by simpa using h), List.getElem?_map, List.getElem?_eq_getElem (by omega)]
  rw [List.getD_eq_getElem?_getD, List.getElem?_eq_getElem (by omega)]; rfl
theorem D_law_cell {xs : List Int} (hx : xs.length ≤ 63) {k : Int} (h0 : 0 ≤ k) (h : k < 1000000) : F_law_cell [wX xs, wI k] = .ok (wI (lawCell xs k)) := by
  unfold lawCell
  by_cases c : xs = []
  · have hc : CMul 7 k := Or.inl ⟨by omega, by omega⟩
    simp only [fnSem, rho0, outW_rt, outW_nx, gSeq, Vd.gNil, gDo, gRet, gSet, gOwn, gIf, gAsg, gFrz, gKill, gThenKill, gThenFrz, gApp, gExt, gEx, nLst, fOt, otw, f1, f2, fT, fAnd, fOr, fNot, fAndV, fOrV, fNotV, fIf, fCal, aNil, aCons, fTup, fSl, oNo, oSo, fChain, fV, fO, fC, iVal, iL, setF, setO, nG, tupG, consG, nilG, killAt, frzAt, fzS, nDisp1T, fS1, cYes, unlG, bindok, bindex, bindno, noEx_ok, tb_bv, asDat_dat, asDat_wC, asDat_wI, asDat_bv, asDat_wR, asDat_wS, asDat_wN, pds_nil, pds_dat, pds_wI, pds_wC, pds_wR, pds_bv, asI_I, pAdd_I, pSub_I, pCmp_I, pNeg_I, List.map_cons, List.map_nil, List.length_cons, List.length_nil, List.replicate_succ, List.replicate_zero, List.cons_append, List.nil_append, List.getElem?_cons_zero, List.getElem?_cons_succ, List.getD_cons_zero, List.getD_cons_succ, List.set_cons_zero, List.set_cons_succ, Nat.reduceAdd, Nat.reduceSub, Nat.reduceLT, Nat.reduceLeDiff, Nat.zero_lt_succ, if_true, if_false, Bool.false_eq_true, decide_true, decide_false, Bool.not_true, Bool.not_false, Bool.true_and, Bool.and_true, reduceIte, reduceCtorEq, Bool.true_eq_false, Bool.false_eq_true, not_true_eq_false, not_false_eq_true, fits0, fits1, fits2, fits3, fits4, pLen_B, pLen_Cs, pLen_C, pGet_C0, pGet_C1, pGet_K0, pGet_K1, pGet_Cs0, pEq_I, pEq_C, pEq_Cs, pEq_bl, pIn_Cs, pIn_D, items_Cs, items_B, items_R, F_law_cell, g_law_cell, pEq_X, c, pMul_I, hc]
  · have hl : 0 < xs.length := List.length_pos_iff.mpr c
    have hm : 0 < (xs.length : Int) := by omega
    have h1 := Int.emod_nonneg k (show (xs.length : Int) ≠ 0 by omega)
    have h2 := Int.emod_lt_of_pos k hm
    have hd : CDiv k xs.length := ⟨by omega, by omega⟩
    have hc : CMul 6553 (k / xs.length) := Or.inl ⟨by omega, by omega⟩
    simp only [fnSem, rho0, outW_rt, outW_nx, gSeq, Vd.gNil, gDo, gRet, gSet, gOwn, gIf, gAsg, gFrz, gKill, gThenKill, gThenFrz, gApp, gExt, gEx, nLst, fOt, otw, f1, f2, fT, fAnd, fOr, fNot, fAndV, fOrV, fNotV, fIf, fCal, aNil, aCons, fTup, fSl, oNo, oSo, fChain, fV, fO, fC, iVal, iL, setF, setO, nG, tupG, consG, nilG, killAt, frzAt, fzS, nDisp1T, fS1, cYes, unlG, bindok, bindex, bindno, noEx_ok, tb_bv, asDat_dat, asDat_wC, asDat_wI, asDat_bv, asDat_wR, asDat_wS, asDat_wN, pds_nil, pds_dat, pds_wI, pds_wC, pds_wR, pds_bv, asI_I, pAdd_I, pSub_I, pCmp_I, pNeg_I, List.map_cons, List.map_nil, List.length_cons, List.length_nil, List.replicate_succ, List.replicate_zero, List.cons_append, List.nil_append, List.getElem?_cons_zero, List.getElem?_cons_succ, List.getD_cons_zero, List.getD_cons_succ, List.set_cons_zero, List.set_cons_succ, Nat.reduceAdd, Nat.reduceSub, Nat.reduceLT, Nat.reduceLeDiff, Nat.zero_lt_succ, if_true, if_false, Bool.false_eq_true, decide_true, decide_false, Bool.not_true, Bool.not_false, Bool.true_and, Bool.and_true, reduceIte, reduceCtorEq, Bool.true_eq_false, Bool.false_eq_true, not_true_eq_false, not_false_eq_true, fits0, fits1, fits2, fits3, fits4, pLen_B, pLen_Cs, pLen_C, pGet_C0, pGet_C1, pGet_K0, pGet_K1, pGet_Cs0, pEq_I, pEq_C, pEq_Cs, pEq_bl, pIn_Cs, pIn_D, items_Cs, items_B, items_R, F_law_cell, g_law_cell, pEq_X, c, pMul_I, pMod_I, pDiv_I, pLen_X, hm, hd, hc, pGet_X _ _ h1 h2]
theorem D_law_drawn {xs : List Int} (hx : xs.length ≤ 63) {k : Int} (h0 : 0 ≤ k) (h : k < 1000000) {many : Int} (hm : 0 < many) : F_law_drawn [wX xs, wI k, wI many] = .ok (wI (drawn xs k many)) := by
  have m1 : (0 : Int) < 2147483563 := by omega
  have m2 : (0 : Int) < 2147483399 := by omega
  have m3 : (0 : Int) < 2147483647 := by omega
  have b1 := Int.emod_nonneg (lawCell xs k) (show (2147483563 : Int) ≠ 0 by omega)
  have b2 := Int.emod_lt_of_pos (lawCell xs k) m1
  have c1 : 0 ≤ h1 xs k ∧ h1 xs k < 2147483563 := ⟨Int.emod_nonneg _ (by omega), Int.emod_lt_of_pos _ m1⟩
  have c2 : 0 ≤ h2 xs k ∧ h2 xs k < 2147483399 := ⟨Int.emod_nonneg _ (by omega), Int.emod_lt_of_pos _ m2⟩
  have q1 : CMul (lawCell xs k % 2147483563) 69069 := Or.inl ⟨by omega, by omega⟩
  have q2 : CMul 104723 (k + 1) := Or.inl ⟨by omega, by omega⟩
  have q3 : CMul (h1 xs k) (h1 xs k) := Or.inl ⟨by omega, by omega⟩
  have q4 : CMul (h2 xs k) (h2 xs k) := Or.inl ⟨by omega, by omega⟩
  have d3 : ∀ i : Int, CDiv i 3 := fun i => ⟨by omega, by omega⟩
  have d7 : ∀ i : Int, CDiv i 7 := fun i => ⟨by omega, by omega⟩
  have d11 : ∀ i : Int, CDiv i 11 := fun i => ⟨by omega, by omega⟩
  have e1 : (lawCell xs k % 2147483563 * 69069 + 104723 * (k + 1)) % 2147483563 = h1 xs k := rfl
  have e2 : (h1 xs k * h1 xs k + h1 xs k / 3) % 2147483399 = h2 xs k := rfl
  simp only [fnSem, rho0, outW_rt, outW_nx, gSeq, Vd.gNil, gDo, gRet, gSet, gOwn, gIf, gAsg, gFrz, gKill, gThenKill, gThenFrz, gApp, gExt, gEx, nLst, fOt, otw, f1, f2, fT, fAnd, fOr, fNot, fAndV, fOrV, fNotV, fIf, fCal, aNil, aCons, fTup, fSl, oNo, oSo, fChain, fV, fO, fC, iVal, iL, setF, setO, nG, tupG, consG, nilG, killAt, frzAt, fzS, nDisp1T, fS1, cYes, unlG, bindok, bindex, bindno, noEx_ok, tb_bv, asDat_dat, asDat_wC, asDat_wI, asDat_bv, asDat_wR, asDat_wS, asDat_wN, pds_nil, pds_dat, pds_wI, pds_wC, pds_wR, pds_bv, asI_I, pAdd_I, pSub_I, pCmp_I, pNeg_I, List.map_cons, List.map_nil, List.length_cons, List.length_nil, List.replicate_succ, List.replicate_zero, List.cons_append, List.nil_append, List.getElem?_cons_zero, List.getElem?_cons_succ, List.getD_cons_zero, List.getD_cons_succ, List.set_cons_zero, List.set_cons_succ, Nat.reduceAdd, Nat.reduceSub, Nat.reduceLT, Nat.reduceLeDiff, Nat.zero_lt_succ, if_true, if_false, Bool.false_eq_true, decide_true, decide_false, Bool.not_true, Bool.not_false, Bool.true_and, Bool.and_true, reduceIte, reduceCtorEq, Bool.true_eq_false, Bool.false_eq_true, not_true_eq_false, not_false_eq_true, fits0, fits1, fits2, fits3, fits4, pLen_B, pLen_Cs, pLen_C, pGet_C0, pGet_C1, pGet_K0, pGet_K1, pGet_Cs0, pEq_I, pEq_C, pEq_Cs, pEq_bl, pIn_Cs, pIn_D, items_Cs, items_B, items_R, F_law_drawn, g_law_drawn, D_law_cell hx h0 h, pMul_I, pMod_I, pDiv_I, m1, m2, m3, q1, q2, e1, q3, d3, e2, q4, d7, d11, hm]
  rfl
theorem join_S (l : List Nat) : Txt.join (S []) (l.map fun c => S [c]) = S l := by
  rw [TL.join_eq]
  have h : TL.tl (Str.join (S []) (l.map fun c => S [c])) = l := by
    rw [TL.tl_join, List.map_map]
    induction l with
    | nil => rfl
    | cons a l ih =>
      cases l with
      | nil => rfl
      | cons c l =>
        show [a] ++ ([] ++ TL.joinL [] (((c :: l).map (TL.tl ∘ fun c => S [c])))) = _
        have ih : TL.joinL [] (((c :: l).map (TL.tl ∘ fun c => S [c]))) = c :: l := ih
        rw [ih]; rfl
  exact TL.ext_tl h
theorem allS_map (l : List Nat) : allS (l.map fun c => pR [c]) = some (l.map fun c => S [c]) := by
  induction l with
  | nil => rfl
  | cons a l ih => simp only [List.map_cons]; show (allS (l.map fun c => pR [c])).map _ = _; rw [ih]; rfl
theorem pJoin_S (l : List Nat) (h : l.length ≤ 1000) : pJoin (S []) (.dat (.list (l.map fun c => pR [c]))) = .ok (wR l) := by
  have e : (seqD (.dat (.list (l.map fun c => pR [c])))).bind allS = some (l.map fun c => S [c]) := allS_map l
  unfold pJoin
  rw [e]
  simp only [List.map_map, List.length_map]
  rw [if_pos, join_S]; rfl
  have : ∀ l : List Nat, (l.map ((fun x => x.length) ∘ fun c => S [c])).sum = l.length := fun l => by
    induction l with
    | nil => rfl
    | cons a l ih => rw [List.map_cons, List.sum_cons, ih, List.length_cons]; show 1 + _ = _; omega
  rw [this]
  show l.length + l.length * 0 ≤ _
  omega
def alphas : List (List Nat) := [[97, 98], [97, 98, 99], [97, 97, 98], [102, 97]]
def lawAlpha (xs : List Int) (at_ : Int) : List Nat := alphas.getD (drawn xs (at_ + 2) 4).toNat []
def lawRow (xs : List Int) (at_ : Int) (wide : Nat) (row : Nat) : List Nat := (List.range wide).map fun k : Nat => (lawAlpha xs at_).getD (drawn xs (at_ + 3 + 7 * row + k) (lawAlpha xs at_).length).toNat 0
def lawBoard (xs : List Int) (at_ most : Int) : Bd := (List.range (1 + drawn xs at_ most).toNat).map (lawRow xs at_ (1 + drawn xs (at_ + 1) most).toNat)
theorem alpha_ok (xs : List Int) (at_ : Int) : lawAlpha xs at_ ∈ alphas := by
  have := drawn_bd xs (at_ + 2) (show (0 : Int) < 4 by omega)
  unfold lawAlpha
  rw [List.getD_eq_getElem?_getD, List.getElem?_eq_getElem (by simp [alphas]; omega)]
  exact List.getElem_mem _
theorem alpha_len (xs : List Int) (at_ : Int) : 1 ≤ (lawAlpha xs at_).length ∧ (lawAlpha xs at_).length ≤ 3 := by
  have := alpha_ok xs at_
  simp only [alphas, List.mem_cons, List.not_mem_nil, or_false] at this
  rcases this with h | h | h | h <;> rw [h] <;> decide
theorem alpha_let (xs : List Int) (at_ : Int) : ∀ c ∈ lawAlpha xs at_, c ∈ [97, 98, 99, 100, 101, 102] := by
  have := alpha_ok xs at_
  simp only [alphas, List.mem_cons, List.not_mem_nil, or_false] at this
  rcases this with h | h | h | h <;> rw [h] <;> decide
theorem lawBoard_good (xs : List Int) (at_ : Int) {most : Int} (hm : 1 ≤ most) (hm8 : most ≤ 8) : Good (lawBoard xs at_ most) := by
  have d1 := drawn_bd xs at_ (show 0 < most by omega)
  have d2 := drawn_bd xs (at_ + 1) (show 0 < most by omega)
  have hw : wd (lawBoard xs at_ most) = (1 + drawn xs (at_ + 1) most).toNat := by
    unfold wd lawBoard
    rw [List.getD_eq_getElem?_getD, List.getElem?_map, List.getElem?_range (by omega)]
    simp [lawRow]
  have hl : (lawBoard xs at_ most).length = (1 + drawn xs at_ most).toNat := by unfold lawBoard; simp
  refine ⟨by omega, by omega, by omega, by omega, fun r hr => ?_, fun r hr c hc => ?_⟩
  · obtain ⟨i, _, rfl⟩ := List.mem_map.mp hr
    rw [hw]; simp [lawRow]
  · obtain ⟨i, _, rfl⟩ := List.mem_map.mp hr
    obtain ⟨j, _, rfl⟩ := List.mem_map.mp hc
    have hp := alpha_len xs at_
    have := drawn_bd xs (at_ + 3 + 7 * i + j) (show 0 < ((lawAlpha xs at_).length : Int) by omega)
    refine alpha_let xs at_ _ ?_
    rw [List.getD_eq_getElem?_getD, List.getElem?_eq_getElem (by omega)]
    exact List.getElem_mem _
theorem pGet_alphas (i : Int) (h0 : 0 ≤ i) (h : i < 4) : pGet (.dat (.list [.str (S [97, 98]), .str (S [97, 98, 99]), .str (S [97, 97, 98]), .str (S [102, 97])])) (wI i) = .ok (wR (alphas.getD i.toNat [])) := by
  show optW .dat (atI (alphas.map pR) i) = _
  rw [atI_pos h0 (by simpa [alphas] using h), List.getElem?_map, List.getElem?_eq_getElem (by simp [alphas]; omega)]
  rw [List.getD_eq_getElem?_getD, List.getElem?_eq_getElem (by simp [alphas]; omega)]; rfl
theorem pds_wS (i : List Nat) (ws : List W) : pds (wS i :: ws) = (pds ws).bind fun ds => .ok (.str (S i) :: ds) := rfl
theorem D_law_board {xs : List Int} (hx : xs.length ≤ 63) {at_ most : Int} (h0 : 0 ≤ at_) (h : at_ < 900000) (hm : 1 ≤ most) (hm8 : most ≤ 8) : F_law_board [wX xs, wI at_, wI most] = .ok (wB (lawBoard xs at_ most)) := by
  have d1 := drawn_bd xs at_ (show 0 < most by omega)
  have d2 := drawn_bd xs (at_ + 1) (show 0 < most by omega)
  have d3 := drawn_bd xs (at_ + 2) (show (0 : Int) < 4 by omega)
  have hp := alpha_len xs at_
  simp only [fnSem, rho0, outW_rt, outW_nx, gSeq, Vd.gNil, gDo, gRet, gSet, gOwn, gIf, gAsg, gFrz, gKill, gThenKill, gThenFrz, gApp, gExt, gEx, nLst, fOt, otw, f1, f2, fT, fAnd, fOr, fNot, fAndV, fOrV, fNotV, fIf, fCal, aNil, aCons, fTup, fSl, oNo, oSo, fChain, fV, fO, fC, iVal, iL, setF, setO, nG, tupG, consG, nilG, killAt, frzAt, fzS, nDisp1T, fS1, cYes, unlG, bindok, bindex, bindno, noEx_ok, tb_bv, asDat_dat, asDat_wC, asDat_wI, asDat_bv, asDat_wR, asDat_wS, asDat_wN, pds_nil, pds_dat, pds_wI, pds_wC, pds_wR, pds_bv, asI_I, pAdd_I, pSub_I, pCmp_I, pNeg_I, List.map_cons, List.map_nil, List.length_cons, List.length_nil, List.replicate_succ, List.replicate_zero, List.cons_append, List.nil_append, List.getElem?_cons_zero, List.getElem?_cons_succ, List.getD_cons_zero, List.getD_cons_succ, List.set_cons_zero, List.set_cons_succ, Nat.reduceAdd, Nat.reduceSub, Nat.reduceLT, Nat.reduceLeDiff, Nat.zero_lt_succ, if_true, if_false, Bool.false_eq_true, decide_true, decide_false, Bool.not_true, Bool.not_false, Bool.true_and, Bool.and_true, reduceIte, reduceCtorEq, Bool.true_eq_false, Bool.false_eq_true, not_true_eq_false, not_false_eq_true, fits0, fits1, fits2, fits3, fits4, pLen_B, pLen_Cs, pLen_C, pGet_C0, pGet_C1, pGet_K0, pGet_K1, pGet_Cs0, pEq_I, pEq_C, pEq_Cs, pEq_bl, pIn_Cs, pIn_D, items_Cs, items_B, items_R, F_law_board, g_law_board, D_law_drawn hx h0 (show at_ < 1000000 by omega) (show 0 < most by omega), D_law_drawn hx (show 0 ≤ at_ + 1 by omega) (show at_ + 1 < 1000000 by omega) (show 0 < most by omega), D_law_drawn hx (show 0 ≤ at_ + 2 by omega) (show at_ + 2 < 1000000 by omega) (show (0 : Int) < 4 by omega), pds_wS, pGet_alphas _ d3.1 d3.2]
  rw [gFor_inv (fun k : Nat => wI (k : Nat)) (List.range (1 + drawn xs at_ most).toNat) (fun s : Bd => [.fz (wX xs), .fz (wI at_), .fz (wI most), .fz (wI (1 + drawn xs at_ most)), .fz (wI (1 + drawn xs (at_ + 1) most)), .fz (wR (lawAlpha xs at_)), .fz (wB s), .un, .un, .un])
    (fun s i => s ++ [lawRow xs at_ (1 + drawn xs (at_ + 1) most).toNat i]) (fun l s => s.length + l.length ≤ 8 ∧ ∀ i ∈ l, i < 8) []]
  · simp only [fnSem, rho0, outW_rt, outW_nx, gSeq, Vd.gNil, gDo, gRet, gSet, gOwn, gIf, gAsg, gFrz, gKill, gThenKill, gThenFrz, gApp, gExt, gEx, nLst, fOt, otw, f1, f2, fT, fAnd, fOr, fNot, fAndV, fOrV, fNotV, fIf, fCal, aNil, aCons, fTup, fSl, oNo, oSo, fChain, fV, fO, fC, iVal, iL, setF, setO, nG, tupG, consG, nilG, killAt, frzAt, fzS, nDisp1T, fS1, cYes, unlG, bindok, bindex, bindno, noEx_ok, tb_bv, asDat_dat, asDat_wC, asDat_wI, asDat_bv, asDat_wR, asDat_wS, asDat_wN, pds_nil, pds_dat, pds_wI, pds_wC, pds_wR, pds_bv, asI_I, pAdd_I, pSub_I, pCmp_I, pNeg_I, List.map_cons, List.map_nil, List.length_cons, List.length_nil, List.replicate_succ, List.replicate_zero, List.cons_append, List.nil_append, List.getElem?_cons_zero, List.getElem?_cons_succ, List.getD_cons_zero, List.getD_cons_succ, List.set_cons_zero, List.set_cons_succ, Nat.reduceAdd, Nat.reduceSub, Nat.reduceLT, Nat.reduceLeDiff, Nat.zero_lt_succ, if_true, if_false, Bool.false_eq_true, decide_true, decide_false, Bool.not_true, Bool.not_false, Bool.true_and, Bool.and_true, reduceIte, reduceCtorEq, Bool.true_eq_false, Bool.false_eq_true, not_true_eq_false, not_false_eq_true, fits0, fits1, fits2, fits3, fits4, pLen_B, pLen_Cs, pLen_C, pGet_C0, pGet_C1, pGet_K0, pGet_K1, pGet_Cs0, pEq_I, pEq_C, pEq_Cs, pEq_bl, pIn_Cs, pIn_D, items_Cs, items_B, items_R]
    have : ∀ (f : Nat → List Nat) (l : List Nat) (s : Bd), l.foldl (fun s i => s ++ [f i]) s = s ++ l.map f := fun f l => by
      induction l with
      | nil => intro s; simp
      | cons a l ih => intro s; rw [List.foldl_cons, ih]; simp
    rw [this]; rfl
  · simp only [fnSem, rho0, outW_rt, outW_nx, gSeq, Vd.gNil, gDo, gRet, gSet, gOwn, gIf, gAsg, gFrz, gKill, gThenKill, gThenFrz, gApp, gExt, gEx, nLst, fOt, otw, f1, f2, fT, fAnd, fOr, fNot, fAndV, fOrV, fNotV, fIf, fCal, aNil, aCons, fTup, fSl, oNo, oSo, fChain, fV, fO, fC, iVal, iL, setF, setO, nG, tupG, consG, nilG, killAt, frzAt, fzS, nDisp1T, fS1, cYes, unlG, bindok, bindex, bindno, noEx_ok, tb_bv, asDat_dat, asDat_wC, asDat_wI, asDat_bv, asDat_wR, asDat_wS, asDat_wN, pds_nil, pds_dat, pds_wI, pds_wC, pds_wR, pds_bv, asI_I, pAdd_I, pSub_I, pCmp_I, pNeg_I, List.map_cons, List.map_nil, List.length_cons, List.length_nil, List.replicate_succ, List.replicate_zero, List.cons_append, List.nil_append, List.getElem?_cons_zero, List.getElem?_cons_succ, List.getD_cons_zero, List.getD_cons_succ, List.set_cons_zero, List.set_cons_succ, Nat.reduceAdd, Nat.reduceSub, Nat.reduceLT, Nat.reduceLeDiff, Nat.zero_lt_succ, if_true, if_false, Bool.false_eq_true, decide_true, decide_false, Bool.not_true, Bool.not_false, Bool.true_and, Bool.and_true, reduceIte, reduceCtorEq, Bool.true_eq_false, Bool.false_eq_true, not_true_eq_false, not_false_eq_true, fits0, fits1, fits2, fits3, fits4, pLen_B, pLen_Cs, pLen_C, pGet_C0, pGet_C1, pGet_K0, pGet_K1, pGet_Cs0, pEq_I, pEq_C, pEq_Cs, pEq_bl, pIn_Cs, pIn_D, items_Cs, items_B, items_R]
    exact rng1_I _ (by omega) (by omega)
  · rfl
  · refine ⟨by rw [List.length_range]; simp; omega, fun i hi => ?_⟩
    rw [List.mem_range] at hi; omega
  · intro i l s ⟨i1, i2⟩
    have i3 := i2 i List.mem_cons_self
    simp only [List.length_cons] at i1
    refine ⟨?_, by rw [List.length_append, List.length_singleton]; omega, fun x hx => i2 x (List.mem_cons_of_mem _ hx)⟩
    simp only [fnSem, rho0, outW_rt, outW_nx, gSeq, Vd.gNil, gDo, gRet, gSet, gOwn, gIf, gAsg, gFrz, gKill, gThenKill, gThenFrz, gApp, gExt, gEx, nLst, fOt, otw, f1, f2, fT, fAnd, fOr, fNot, fAndV, fOrV, fNotV, fIf, fCal, aNil, aCons, fTup, fSl, oNo, oSo, fChain, fV, fO, fC, iVal, iL, setF, setO, nG, tupG, consG, nilG, killAt, frzAt, fzS, nDisp1T, fS1, cYes, unlG, bindok, bindex, bindno, noEx_ok, tb_bv, asDat_dat, asDat_wC, asDat_wI, asDat_bv, asDat_wR, asDat_wS, asDat_wN, pds_nil, pds_dat, pds_wI, pds_wC, pds_wR, pds_bv, asI_I, pAdd_I, pSub_I, pCmp_I, pNeg_I, List.map_cons, List.map_nil, List.length_cons, List.length_nil, List.replicate_succ, List.replicate_zero, List.cons_append, List.nil_append, List.getElem?_cons_zero, List.getElem?_cons_succ, List.getD_cons_zero, List.getD_cons_succ, List.set_cons_zero, List.set_cons_succ, Nat.reduceAdd, Nat.reduceSub, Nat.reduceLT, Nat.reduceLeDiff, Nat.zero_lt_succ, if_true, if_false, Bool.false_eq_true, decide_true, decide_false, Bool.not_true, Bool.not_false, Bool.true_and, Bool.and_true, reduceIte, reduceCtorEq, Bool.true_eq_false, Bool.false_eq_true, not_true_eq_false, not_false_eq_true, fits0, fits1, fits2, fits3, fits4, pLen_B, pLen_Cs, pLen_C, pGet_C0, pGet_C1, pGet_K0, pGet_K1, pGet_Cs0, pEq_I, pEq_C, pEq_Cs, pEq_bl, pIn_Cs, pIn_D, items_Cs, items_B, items_R]
    rw [nLc_all (fun k : Nat => wI (k : Nat)) (List.range (1 + drawn xs (at_ + 1) most).toNat) (fun k : Nat => pR [(lawAlpha xs at_).getD (drawn xs (at_ + 3 + 7 * i + k) (lawAlpha xs at_).length).toNat 0])]
    · have e1 : strA (wS []) = some (S []) := rfl
      have e2 : (List.range (1 + drawn xs (at_ + 1) most).toNat).map (fun k : Nat => pR [(lawAlpha xs at_).getD (drawn xs (at_ + 3 + 7 * i + k) (lawAlpha xs at_).length).toNat 0]) = (lawRow xs at_ (1 + drawn xs (at_ + 1) most).toNat i).map fun c => pR [c] := by
        unfold lawRow; rw [List.map_map]; rfl
      have e3 : pAdd (wB s) (.dat (.tuple [pR (lawRow xs at_ (1 + drawn xs (at_ + 1) most).toNat i)])) = .ok (wB (s ++ [lawRow xs at_ (1 + drawn xs (at_ + 1) most).toNat i])) := by
        show (if (s.map pR).length + 1 ≤ sizeLine then R.ok (W.dat (.tuple (s.map pR ++ [pR (lawRow xs at_ (1 + drawn xs (at_ + 1) most).toNat i)]))) else .no) = _
        rw [if_pos (by rw [List.length_map]; unfold sizeLine; omega)]
        unfold wB pB; rw [List.map_append]; rfl
      simp only [fnSem, rho0, outW_rt, outW_nx, gSeq, Vd.gNil, gDo, gRet, gSet, gOwn, gIf, gAsg, gFrz, gKill, gThenKill, gThenFrz, gApp, gExt, gEx, nLst, fOt, otw, f1, f2, fT, fAnd, fOr, fNot, fAndV, fOrV, fNotV, fIf, fCal, aNil, aCons, fTup, fSl, oNo, oSo, fChain, fV, fO, fC, iVal, iL, setF, setO, nG, tupG, consG, nilG, killAt, frzAt, fzS, nDisp1T, fS1, cYes, unlG, bindok, bindex, bindno, noEx_ok, tb_bv, asDat_dat, asDat_wC, asDat_wI, asDat_bv, asDat_wR, asDat_wS, asDat_wN, pds_nil, pds_dat, pds_wI, pds_wC, pds_wR, pds_bv, asI_I, pAdd_I, pSub_I, pCmp_I, pNeg_I, List.map_cons, List.map_nil, List.length_cons, List.length_nil, List.replicate_succ, List.replicate_zero, List.cons_append, List.nil_append, List.getElem?_cons_zero, List.getElem?_cons_succ, List.getD_cons_zero, List.getD_cons_succ, List.set_cons_zero, List.set_cons_succ, Nat.reduceAdd, Nat.reduceSub, Nat.reduceLT, Nat.reduceLeDiff, Nat.zero_lt_succ, if_true, if_false, Bool.false_eq_true, decide_true, decide_false, Bool.not_true, Bool.not_false, Bool.true_and, Bool.and_true, reduceIte, reduceCtorEq, Bool.true_eq_false, Bool.false_eq_true, not_true_eq_false, not_false_eq_true, fits0, fits1, fits2, fits3, fits4, pLen_B, pLen_Cs, pLen_C, pGet_C0, pGet_C1, pGet_K0, pGet_K1, pGet_Cs0, pEq_I, pEq_C, pEq_Cs, pEq_bl, pIn_Cs, pIn_D, items_Cs, items_B, items_R, e1, e2, pJoin_S _ (show (lawRow xs at_ (1 + drawn xs (at_ + 1) most).toNat i).length ≤ 1000 by unfold lawRow; rw [List.length_map, List.length_range]; omega), e3]
    · simp only [fnSem, rho0, outW_rt, outW_nx, gSeq, Vd.gNil, gDo, gRet, gSet, gOwn, gIf, gAsg, gFrz, gKill, gThenKill, gThenFrz, gApp, gExt, gEx, nLst, fOt, otw, f1, f2, fT, fAnd, fOr, fNot, fAndV, fOrV, fNotV, fIf, fCal, aNil, aCons, fTup, fSl, oNo, oSo, fChain, fV, fO, fC, iVal, iL, setF, setO, nG, tupG, consG, nilG, killAt, frzAt, fzS, nDisp1T, fS1, cYes, unlG, bindok, bindex, bindno, noEx_ok, tb_bv, asDat_dat, asDat_wC, asDat_wI, asDat_bv, asDat_wR, asDat_wS, asDat_wN, pds_nil, pds_dat, pds_wI, pds_wC, pds_wR, pds_bv, asI_I, pAdd_I, pSub_I, pCmp_I, pNeg_I, List.map_cons, List.map_nil, List.length_cons, List.length_nil, List.replicate_succ, List.replicate_zero, List.cons_append, List.nil_append, List.getElem?_cons_zero, List.getElem?_cons_succ, List.getD_cons_zero, List.getD_cons_succ, List.set_cons_zero, List.set_cons_succ, Nat.reduceAdd, Nat.reduceSub, Nat.reduceLT, Nat.reduceLeDiff, Nat.zero_lt_succ, if_true, if_false, Bool.false_eq_true, decide_true, decide_false, Bool.not_true, Bool.not_false, Bool.true_and, Bool.and_true, reduceIte, reduceCtorEq, Bool.true_eq_false, Bool.false_eq_true, not_true_eq_false, not_false_eq_true, fits0, fits1, fits2, fits3, fits4, pLen_B, pLen_Cs, pLen_C, pGet_C0, pGet_C1, pGet_K0, pGet_K1, pGet_Cs0, pEq_I, pEq_C, pEq_Cs, pEq_bl, pIn_Cs, pIn_D, items_Cs, items_B, items_R]
      exact rng1_I _ (by omega) (by omega)
    · rw [List.length_range]; unfold sizeLine; omega
    · intro j hj
      rw [List.mem_range] at hj
      refine ⟨_, rfl, rfl, ?_⟩
      have c7 : CMul 7 (i : Int) := Or.inl ⟨by omega, by omega⟩
      have dd := drawn_bd xs (at_ + 3 + 7 * i + j) (show 0 < ((lawAlpha xs at_).length : Int) by omega)
      simp only [fnSem, rho0, outW_rt, outW_nx, gSeq, Vd.gNil, gDo, gRet, gSet, gOwn, gIf, gAsg, gFrz, gKill, gThenKill, gThenFrz, gApp, gExt, gEx, nLst, fOt, otw, f1, f2, fT, fAnd, fOr, fNot, fAndV, fOrV, fNotV, fIf, fCal, aNil, aCons, fTup, fSl, oNo, oSo, fChain, fV, fO, fC, iVal, iL, setF, setO, nG, tupG, consG, nilG, killAt, frzAt, fzS, nDisp1T, fS1, cYes, unlG, bindok, bindex, bindno, noEx_ok, tb_bv, asDat_dat, asDat_wC, asDat_wI, asDat_bv, asDat_wR, asDat_wS, asDat_wN, pds_nil, pds_dat, pds_wI, pds_wC, pds_wR, pds_bv, asI_I, pAdd_I, pSub_I, pCmp_I, pNeg_I, List.map_cons, List.map_nil, List.length_cons, List.length_nil, List.replicate_succ, List.replicate_zero, List.cons_append, List.nil_append, List.getElem?_cons_zero, List.getElem?_cons_succ, List.getD_cons_zero, List.getD_cons_succ, List.set_cons_zero, List.set_cons_succ, Nat.reduceAdd, Nat.reduceSub, Nat.reduceLT, Nat.reduceLeDiff, Nat.zero_lt_succ, if_true, if_false, Bool.false_eq_true, decide_true, decide_false, Bool.not_true, Bool.not_false, Bool.true_and, Bool.and_true, reduceIte, reduceCtorEq, Bool.true_eq_false, Bool.false_eq_true, not_true_eq_false, not_false_eq_true, fits0, fits1, fits2, fits3, fits4, pLen_B, pLen_Cs, pLen_C, pGet_C0, pGet_C1, pGet_K0, pGet_K1, pGet_Cs0, pEq_I, pEq_C, pEq_Cs, pEq_bl, pIn_Cs, pIn_D, items_Cs, items_B, items_R, pMul_I, c7, pLen_R _ (show (lawAlpha xs at_).length ≤ sizeLine by unfold sizeLine; omega), D_law_drawn hx (show 0 ≤ at_ + 3 + 7 * (i : Int) + (j : Int) by omega) (show at_ + 3 + 7 * (i : Int) + (j : Int) < 1000000 by omega) (show 0 < ((lawAlpha xs at_).length : Int) by omega)]
      rw [pGet_R _ _ dd.1 dd.2 (by unfold sizeLine; omega)]; rfl
end Cp


/-! D5: ways and fences, the mathematics. -/
namespace Cp

open L2 PyProof.Rows PySem PySem.Spec Vd Bf

section

variable {C : Type}

def Cn (R : C → C → Prop) : List C → Prop
  | [] => True
  | [_] => True
  | a :: b :: l => R a b ∧ Cn R (b :: l)
theorem Cn.imp {R S : C → C → Prop} (i : ∀ a b, R a b → S a b) : ∀ {l : List C}, Cn R l → Cn S l
  | [], _ => trivial
  | [_], _ => trivial
  | a :: b :: l, h => ⟨i _ _ h.1, Cn.imp i h.2⟩
theorem Cn.app {R : C → C → Prop} : ∀ {l t : List C} {z : C}, Cn R l → Cn R (z :: t) → l.getLast? = some z → Cn R (l ++ t)
  | [], t, z, _, _, h => by simp at h
  | [a], t, z, _, k, h => by simp at h; subst h; exact k
  | a :: b :: l, t, z, h, k, e => ⟨h.1, Cn.app (l := b :: l) h.2 k (by simpa using e)⟩
theorem Cn.rev {R S : C → C → Prop} (i : ∀ a b, R a b → S b a) : ∀ {l : List C}, Cn R l → Cn S l.reverse
  | [], _ => trivial
  | [_], _ => trivial
  | a :: b :: l, h => by
    have ih := Cn.rev i h.2
    rw [List.reverse_cons]
    exact Cn.app (z := b) ih ⟨i _ _ h.1, trivial⟩ (by simp)
theorem Cn.zip {R : C → C → Prop} : ∀ {l : List C}, Cn R l ↔ ∀ p ∈ l.zip (l.drop 1), R p.1 p.2
  | [] => by simp [Cn]
  | [_] => by simp [Cn]
  | a :: b :: l => by
    have ih := Cn.zip (R := R) (l := b :: l)
    simp only [List.drop_succ_cons, List.drop_zero] at ih ⊢
    rw [Cn, ih, List.zip_cons_cons]
    simp only [List.mem_cons, forall_eq_or_imp]
theorem Cn.ch {nb : C → List C} {ok : C → Bool} : ∀ {l : List C}, Cn (fun a c => c ∈ nb a ∧ ok c = true) l → Ch nb ok l
  | [], _ => trivial
  | [_], _ => trivial
  | a :: b :: l, h => ⟨h.1.1, h.1.2, Cn.ch h.2⟩
theorem Ch.cn {nb : C → List C} {ok : C → Bool} : ∀ {l : List C}, Ch nb ok l → Cn (fun a c => c ∈ nb a ∧ ok c = true) l
  | [], _ => trivial
  | [_], _ => trivial
  | a :: b :: l, h => ⟨⟨h.1, h.2.1⟩, Ch.cn h.2.2⟩
theorem Ch.oks {nb : C → List C} {ok : C → Bool} : ∀ {a : C} {l : List C}, Ch nb ok (a :: l) → ∀ c ∈ l, c ∈ l ∧ ok c = true ∧ ∃ d, c ∈ nb d
  | a, [], _, c, hc => by simp at hc
  | a, b :: l, h, c, hc => by
    rcases List.mem_cons.mp hc with rfl | hc2
    · exact ⟨hc, h.2.1, a, h.1⟩
    · obtain ⟨_, h2, h3⟩ := Ch.oks h.2.2 c hc2
      exact ⟨hc, h2, h3⟩
end

theorem near_mem {b : Bd} {c d : C2} {k : Int} : d ∈ near b c k ↔ ins b d = true ∧ ∃ s ∈ stepsL k, d = (c.1 + s.1, c.2 + s.2) := by
  unfold near
  rw [List.mem_filter, List.mem_map]
  constructor
  · rintro ⟨⟨s, h1, rfl⟩, h2⟩; exact ⟨h2, s, h1, rfl⟩
  · rintro ⟨h2, s, h1, rfl⟩; exact ⟨⟨s, h1, rfl⟩, h2⟩
theorem steps_neg (k : Int) : ∀ s ∈ stepsL k, ((-s.1, -s.2) : C2) ∈ stepsL k := by
  unfold stepsL
  split <;> decide
theorem steps_sub (k : Int) : ∀ s ∈ stepsL k, s ∈ stepsL 8 := by
  unfold stepsL
  split <;> decide
theorem near_symm {b : Bd} {c d : C2} {k : Int} (hc : ins b c = true) (h : d ∈ near b c k) : c ∈ near b d k := by
  obtain ⟨h1, s, h2, rfl⟩ := near_mem.mp h
  refine near_mem.mpr ⟨hc, _, steps_neg k s h2, ?_⟩
  exact Prod.ext (by simp; omega) (by simp; omega)
theorem near_sub {b : Bd} {c d : C2} {k : Int} (h : d ∈ near b c k) : d ∈ near b c 8 := by
  obtain ⟨h1, s, h2, rfl⟩ := near_mem.mp h
  exact near_mem.mpr ⟨h1, s, steps_sub k s h2, rfl⟩
section

variable {b : Bd} {k : Int} {one other third : C2}

theorem IsWay.one_mem {l : List C2} (w : IsWay b k one other l) : one ∈ l := List.mem_of_mem_head? w.hd
theorem IsWay.oth_mem {l : List C2} (w : IsWay b k one other l) : other ∈ l := List.mem_of_getLast? w.lst
theorem IsWay.cn {l : List C2} (w : IsWay b k one other l) : Cn (fun a c => c ∈ near b a k) l := Cn.zip.mpr w.nxt
theorem IsWay.rch {l : List C2} (w : IsWay b k one other l) : ∃ n, l.length = n + 1 ∧ Rch (nbk b k) (okk b one) one n other := by
  cases l with
  | nil => have := w.hd; simp at this
  | cons a r =>
    have e := w.hd
    simp at e
    subst e
    have h : ∀ (r : List C2) (y : C2), Cn (fun a c => c ∈ near b a k) (y :: r) → (∀ c ∈ r, Vd.ltr b c = Vd.ltr b a) → Ch (nbk b k) (okk b a) (y :: r) := by
      intro r
      induction r with
      | nil => intro y _ _; trivial
      | cons x r ih => intro y h1 h2; exact ⟨h1.1, by unfold okk; simpa using h2 x List.mem_cons_self, ih x h1.2 fun c hc => h2 c (List.mem_cons_of_mem _ hc)⟩
    refine ⟨r.length, rfl, (h r a w.cn fun c hc => w.ltr c (List.mem_cons_of_mem _ hc)).rch ?_⟩
    have hq := w.lst
    rw [List.getLast?_eq_some_getLast (by simp)] at hq
    exact Option.some.inj hq
theorem IsWay.rev {l : List C2} (w : IsWay b k one other l) : IsWay b k other one l.reverse where
  len := by rw [List.length_reverse]; exact w.len
  hd := by rw [List.head?_reverse]; exact w.lst
  lst := by rw [List.getLast?_reverse]; exact w.hd
  ins := fun c hc => w.ins c (List.mem_reverse.mp hc)
  ltr := fun c hc => by rw [w.ltr c (List.mem_reverse.mp hc), w.ltr other w.oth_mem]
  nxt := by
    have h : ∀ l : List C2, (∀ c ∈ l, Vd.ins b c = true) → Cn (fun a c => c ∈ near b a k) l → Cn (fun a c => Vd.ins b a = true ∧ c ∈ near b a k) l := by
      intro l
      induction l with
      | nil => intro _ _; trivial
      | cons a r ih =>
        intro h1 h2
        cases r with
        | nil => trivial
        | cons x r => exact ⟨⟨h1 a List.mem_cons_self, h2.1⟩, ih (fun c hc => h1 c (List.mem_cons_of_mem _ hc)) h2.2⟩
    exact Cn.zip.mp (Cn.rev (S := fun a c => c ∈ near b a k) (fun a c h => near_symm h.1 h.2) (h l w.ins w.cn))
theorem IsWay.app {l m : List C2} (w : IsWay b k one other l) (v : IsWay b k other third m) (hl : l.length + m.length ≤ 1000) : IsWay b k one third (l ++ m.drop 1) := by
  cases m with
  | nil => have := v.hd; simp at this
  | cons a r =>
    have e := v.hd
    simp at e
    subst e
    simp only [List.drop_succ_cons, List.drop_zero]
    refine ⟨by simp only [List.length_append, List.length_cons] at hl ⊢; omega, ?_, ?_, fun c hc => ?_, fun c hc => ?_, Cn.zip.mp (Cn.app w.cn v.cn w.lst)⟩
    · have := w.hd
      cases l with
      | nil => simp at this
      | cons x l => simpa using this
    · have h1 := v.lst
      cases r with
      | nil => simp at h1; subst h1; simpa using w.lst
      | cons x r => rw [List.getLast?_append]; simp at h1 ⊢; simp [h1]
    · rcases List.mem_append.mp hc with h | h
      · exact w.ins c h
      · exact v.ins c (List.mem_cons_of_mem _ h)
    · rcases List.mem_append.mp hc with h | h
      · exact w.ltr c h
      · rw [v.ltr c (List.mem_cons_of_mem _ h), w.ltr _ w.oth_mem]
theorem IsWay.eight {l : List C2} (w : IsWay b k one other l) : IsWay b 8 one other l := ⟨w.len, w.hd, w.lst, w.ins, w.ltr, fun p hp => near_sub (w.nxt p hp)⟩
theorem IsWay.self (h : Vd.ins b one = true) : IsWay b k one one [one] := ⟨by simp, rfl, rfl, fun c hc => by simp at hc; subst hc; exact h, fun c hc => by simp at hc; subst hc; rfl, fun p hp => by simp at hp⟩
variable (g : Good b) (h1 : ins b one = true)

include g h1 in
theorem way_in {l : List C2} (w : IsWay b k one other l) : other ∈ keys (spread b k one) := by
  obtain ⟨n, _, h⟩ := w.rch
  exact ((spread_fin g k h1).iff other).mpr ⟨n, h⟩
include g h1 in
theorem way_some (h : other ∈ keys (spread b k one)) : ∃ l, way b k one other = some l ∧ IsWay b k one other l ∧ l.length ≤ 64 ∧ ∀ l', IsWay b k one other l' → l.length ≤ l'.length := by
  have F := spread_fin g k h1
  obtain ⟨j, hj⟩ := (F.iff other).mp h
  obtain ⟨i, _, hi⟩ := dist_ex hj
  have hlt := dist_le g h1 hi
  obtain ⟨pre, p1, p2, p3, p4⟩ := bW_spec F i 70 other [] hi (by omega) trivial
  refine ⟨one :: pre, by unfold way; rw [if_pos h, p1], ⟨by simp at p2 ⊢; omega, rfl, by rw [List.getLast?_eq_some_getLast (by simp), p4]; rfl, fun c hc => ?_, fun c hc => ?_, Cn.zip.mp ((Ch.cn p3).imp fun a c h => h.1)⟩, by simp at p2 ⊢; omega, fun l' w' => ?_⟩
  · rcases List.mem_cons.mp hc with rfl | hc
    · exact h1
    · obtain ⟨_, _, d, hd⟩ := Ch.oks p3 c hc
      exact near_ins hd
  · rcases List.mem_cons.mp hc with rfl | hc
    · rfl
    · obtain ⟨_, h2, _⟩ := Ch.oks p3 c hc
      exact of_decide_eq_true h2
  · obtain ⟨n, h2, h3⟩ := w'.rch
    rw [h2]
    have : ¬ n < i := fun q => hi.2 n q h3
    simp at p2 ⊢; omega
theorem way_none (h : other ∉ keys (spread b k one)) : way b k one other = none := by unfold way; rw [if_neg h]
include g h1 in
theorem way_self : way b k one one = some [one] := by
  have F := spread_fin g k h1
  unfold way
  rw [if_pos ((F.iff one).mpr ⟨0, .zero⟩)]
  congr 1
  unfold bW; simp
include g h1 in
theorem key_ins {c : C2} (h : c ∈ keys (spread b k one)) : ins b c = true := by
  obtain ⟨j, hj⟩ := ((spread_fin g k h1).iff c).mp h
  exact Rch_ins h1 hj
include g h1 in
theorem key_closed {c d : C2} (h : c ∈ keys (spread b k one)) (hd : d ∈ near b c k) (hl : ltr b d = ltr b c) : d ∈ keys (spread b k one) := by
  have F := spread_fin g k h1
  obtain ⟨j, hj⟩ := (F.iff c).mp h
  refine (F.iff d).mpr ⟨j + 1, .succ hj hd ?_⟩
  have : ltr b c = ltr b one := by
    cases hj with
    | zero => rfl
    | succ _ _ h3 => exact of_decide_eq_true h3
  unfold okk; simp [hl, this]
include g h1 in
theorem key_self : one ∈ keys (spread b k one) := ((spread_fin g k h1).iff one).mpr ⟨0, .zero⟩
include g h1 in
theorem key_symm (h2 : ins b other = true) (h : other ∈ keys (spread b k one)) : one ∈ keys (spread b k other) := by
  obtain ⟨l, _, w, _⟩ := way_some g h1 h
  exact way_in g h2 w.rev
include g h1 in
/-- back as far -/
theorem way_back (h2 : ins b other = true) (h : other ∈ keys (spread b k one)) : ∃ l m, way b k one other = some l ∧ way b k other one = some m ∧ m.length = l.length ∧ IsWay b k one other l ∧ IsWay b k other one m ∧ l.length ≤ 64 := by
  obtain ⟨l, e1, w1, n1, m1⟩ := way_some g h1 h
  obtain ⟨m, e2, w2, n2, m2⟩ := way_some g h2 (key_symm g h1 h2 h)
  refine ⟨l, m, e1, e2, ?_, w1, w2, n1⟩
  have a1 := m1 _ w2.rev
  have a2 := m2 _ w1.rev
  rw [List.length_reverse] at a1 a2
  omega
include g h1 in
/-- a way's cells are of the patch -/
theorem way_patch {l : List C2} (w : IsWay b k one other l) : ∀ c ∈ l, c ∈ keys (spread b k one) := by
  have h : ∀ (r : List C2) (a : C2), a ∈ keys (spread b k one) → Cn (fun a c => c ∈ near b a k) (a :: r) → (∀ c ∈ a :: r, ltr b c = ltr b one) → ∀ c ∈ a :: r, c ∈ keys (spread b k one) := by
    intro r
    induction r with
    | nil => intro a ha _ _ c hc; simp at hc; subst hc; exact ha
    | cons x r ih =>
      intro a ha h2 h3 c hc
      rcases List.mem_cons.mp hc with rfl | hc
      · exact ha
      · refine ih x (key_closed g h1 ha h2.1 ?_) h2.2 (fun c hc => h3 c (List.mem_cons_of_mem _ hc)) c hc
        rw [h3 x (by simp), h3 a (by simp)]
  cases l with
  | nil => intro c hc; simp at hc
  | cons a r =>
    have e := w.hd
    simp at e
    subst e
    exact h r a (key_self g h1) w.cn w.ltr
end

end Cp



/-! P1: all patches of a board. -/
namespace Cp

open L2 PyProof.Rows PySem PySem.Spec Vd Bf

theorem srtC_perm {l m : List C2} (p : l.Perm m) : srtC l = srtC m := by
  unfold srtC
  rw [mergeC, mergeC]
  exact sorted_eq (mergeC_sorted l) (mergeC_sorted m) (((List.mergeSort_perm l _).trans p).trans (List.mergeSort_perm m _).symm)
section

variable {b : Bd} {k : Int}

/-- of one patch -/
def Sm (b : Bd) (k : Int) (c d : C2) : Prop := d ∈ keys (spread b k c)
theorem Sm.refl (g : Good b) {c : C2} (h : ins b c = true) : Sm b k c c := key_self g h
theorem Sm.symm (g : Good b) {c d : C2} (h : ins b c = true) (s : Sm b k c d) : Sm b k d c := key_symm g h (key_ins g h s) s
theorem Sm.trans (g : Good b) {c d e : C2} (h : ins b c = true) (s : Sm b k c d) (t : Sm b k d e) : Sm b k c e := by
  have hd := key_ins g h s
  obtain ⟨l, _, w1, n1, _⟩ := way_some g h s
  obtain ⟨m, _, w2, n2, _⟩ := way_some g hd t
  exact way_in g h (w1.app w2 (by omega))
theorem Sm.ins (g : Good b) {c d : C2} (h : ins b c = true) (s : Sm b k c d) : Vd.ins b d = true := key_ins g h s
theorem patch_mem {c d : C2} : d ∈ patch b k c ↔ Sm b k c d := srtC_mem
theorem patch_nodup (g : Good b) {c : C2} (h : ins b c = true) : (patch b k c).Nodup := by
  unfold patch srtC
  exact (List.mergeSort_perm _ _).nodup_iff.mpr (spread_fin g k h).nd
/-- seen and found -/
noncomputable def prStep (b : Bd) (k : Int) (s : List C2 × List (List C2)) (c : C2) : List C2 × List (List C2) := if c ∈ s.1 then s else (s.1 ++ patch b k c, s.2 ++ [patch b k c])
noncomputable def partedS (b : Bd) (k : Int) (l : List C2) : List C2 × List (List C2) := l.foldl (prStep b k) ([], [])
noncomputable def parted (b : Bd) (k : Int) : List (List C2) := (partedS b k (allC b)).2
structure PrInv (b : Bd) (k : Int) (s : List C2 × List (List C2)) : Prop where
  fl : s.1 = s.2.flatten
  nd : s.1.Nodup
  ex : ∀ p ∈ s.2, ∃ c, Vd.ins b c = true ∧ p = patch b k c
theorem PrInv.cl (g : Good b) {s : List C2 × List (List C2)} (I : PrInv b k s) {c d : C2} (hc : c ∈ s.1) (sm : Sm b k c d) : d ∈ s.1 := by
  rw [I.fl] at hc ⊢
  obtain ⟨p, hp, hcp⟩ := List.mem_flatten.mp hc
  obtain ⟨e, he, rfl⟩ := I.ex p hp
  exact List.mem_flatten.mpr ⟨_, hp, patch_mem.mpr (Sm.trans g he (patch_mem.mp hcp) sm)⟩
theorem PrInv.in_ (g : Good b) {s : List C2 × List (List C2)} (I : PrInv b k s) {c : C2} (hc : c ∈ s.1) : Vd.ins b c = true := by
  rw [I.fl] at hc
  obtain ⟨p, hp, hcp⟩ := List.mem_flatten.mp hc
  obtain ⟨e, he, rfl⟩ := I.ex p hp
  exact Sm.ins g he (patch_mem.mp hcp)
theorem PrInv.free (g : Good b) {s : List C2 × List (List C2)} (I : PrInv b k s) {c : C2} (hi : Vd.ins b c = true) (hc : c ∉ s.1) : ∀ d ∈ patch b k c, d ∉ s.1 := fun d hd hs => by
  have sm := patch_mem.mp hd
  exact hc (I.cl g hs (Sm.symm g hi sm))
theorem PrInv.step (g : Good b) {s : List C2 × List (List C2)} (I : PrInv b k s) {c : C2} (hi : Vd.ins b c = true) : PrInv b k (prStep b k s c) := by
  unfold prStep
  split
  · exact I
  · rename_i hc
    refine ⟨by simp [I.fl], ?_, fun p hp => ?_⟩
    · show (s.1 ++ patch b k c).Nodup
      rw [List.nodup_append]
      exact ⟨I.nd, patch_nodup g hi, fun x hx y hy e => I.free g hi hc y hy (e ▸ hx)⟩
    · rcases List.mem_append.mp hp with hp | hp
      · exact I.ex p hp
      · simp at hp; exact ⟨c, hi, hp⟩
theorem PrInv.fold (g : Good b) : ∀ (l : List C2) {s : List C2 × List (List C2)}, PrInv b k s → (∀ c ∈ l, Vd.ins b c = true) → PrInv b k (l.foldl (prStep b k) s) ∧ (∀ c ∈ l, c ∈ (l.foldl (prStep b k) s).1) ∧ ∀ c ∈ s.1, c ∈ (l.foldl (prStep b k) s).1
  | [], s, I, _ => ⟨I, fun c h => by simp at h, fun c h => h⟩
  | a :: l, s, I, h => by
    have ha := h a List.mem_cons_self
    have I2 := I.step g ha
    obtain ⟨h1, h2, h3⟩ := PrInv.fold g l I2 fun c hc => h c (List.mem_cons_of_mem _ hc)
    have hs : a ∈ (prStep b k s a).1 ∧ ∀ c ∈ s.1, c ∈ (prStep b k s a).1 := by
      unfold prStep
      split
      · rename_i q; exact ⟨q, fun c h => h⟩
      · exact ⟨List.mem_append_right _ (patch_mem.mpr (Sm.refl g ha)), fun c h => List.mem_append_left _ h⟩
    rw [List.foldl_cons]
    refine ⟨h1, fun c hc => ?_, fun c hc => h3 c (hs.2 c hc)⟩
    rcases List.mem_cons.mp hc with rfl | hc
    · exact h3 _ hs.1
    · exact h2 c hc
theorem PrInv.start : PrInv b k ([], []) := ⟨rfl, List.nodup_nil, fun p h => by simp at h⟩
theorem parted_inv (g : Good b) : PrInv b k (partedS b k (allC b)) := (PrInv.start.fold g (allC b) fun c hc => allC_mem.mp hc).1
theorem parted_all (g : Good b) {c : C2} (h : Vd.ins b c = true) : ∃ p ∈ parted b k, c ∈ p := by
  have h1 := (PrInv.start (k := k).fold g (allC b) fun c hc => allC_mem.mp hc).2.1 c (allC_mem.mpr h)
  have h2 : c ∈ (partedS b k (allC b)).1 := h1
  rw [(parted_inv g).fl] at h2
  exact List.mem_flatten.mp h2
theorem parted_eq (g : Good b) {p : List C2} (hp : p ∈ parted b k) {c : C2} (hc : c ∈ p) : p = patch b k c := by
  obtain ⟨d, hd, rfl⟩ := (parted_inv g).ex p hp
  have sm := patch_mem.mp hc
  have hci := Sm.ins g hd sm
  unfold patch
  -- the same cells, sorted
  have hmem : ∀ x, x ∈ keys (spread b k d) ↔ x ∈ keys (spread b k c) := fun x => ⟨fun h => Sm.trans g hci (Sm.symm g hd sm) h, fun h => Sm.trans g hd sm h⟩
  have hperm : (keys (spread b k d)).Perm (keys (spread b k c)) := (List.perm_ext_iff_of_nodup (spread_fin g k hd).nd (spread_fin g k hci).nd).mpr hmem
  exact srtC_perm hperm
end

end Cp


/-! P2: parted, patches, how_many on encoded boards. -/
namespace Cp

open L2 PyProof.Rows PySem PySem.Spec Vd Bf

def eT : Unit → Pd := fun _ => .bool true
def unT (l : List C2) : List (C2 × Unit) := l.map fun c => (c, ())
theorem unT_keys (l : List C2) : (unT l).map (·.1) = l := by unfold unT; rw [List.map_map]; simp [Function.comp_def]
def pPs (ps : List (List C2)) : Pd := .list (ps.map pCs)
def wPs (ps : List (List C2)) : W := .dat (pPs ps)
section

variable {b : Bd} (g : Good b) {k : Int} (hk : k = 4 ∨ k = 8)

def stP (b : Bd) (k : Int) (s : List C2) (f : List (List C2)) (x y z : Sl) : Rho := [.fz (wB b), .fz (wI k), .ow (.dT (dCs eT (unT s))), .ow (.L (f.map pCs)), x, y, z]
theorem D_seen (s0 : List C2) (f : List (List C2)) (c : C2) (p : List C2) (nd : p.Nodup) (hp : ∀ x ∈ p, x ∉ s0) (hl : s0.length + p.length ≤ 1000) :
    gFor (iVal (fV 5)) (nG 6) (gThenKill [6] (gPut 2 (fV 6) (fC (.dat (.bool true))))) (stP b k s0 f (.fz (wC c)) (.fz (wCs p)) .un) = .ok (.nx (stP b k (s0 ++ p) f (.fz (wC c)) (.fz (wCs p)) .un)) := by
  rw [gFor_inv wC p (fun s : List C2 => stP b k s f (.fz (wC c)) (.fz (wCs p)) .un) (fun s x => s ++ [x]) (fun r s => s.length + r.length ≤ 1000 ∧ r.Nodup ∧ ∀ x ∈ r, x ∉ s) s0]
  · have : ∀ (l s : List C2), l.foldl (fun s x => s ++ [x]) s = s ++ l := fun l => by
      induction l with
      | nil => intro s; simp
      | cons a l ih => intro s; rw [List.foldl_cons, ih]; simp
    rw [this]
  · simp only [fnSem, rho0, outW_rt, outW_nx, gSeq, Vd.gNil, gDo, gRet, gSet, gOwn, gIf, gAsg, gFrz, gKill, gThenKill, gThenFrz, gApp, gExt, gEx, nLst, fOt, otw, f1, f2, fT, fAnd, fOr, fNot, fAndV, fOrV, fNotV, fIf, fCal, aNil, aCons, fTup, fSl, oNo, oSo, fChain, fV, fO, fC, iVal, iL, setF, setO, nG, tupG, consG, nilG, killAt, frzAt, fzS, nDisp1T, fS1, cYes, unlG, bindok, bindex, bindno, noEx_ok, tb_bv, asDat_dat, asDat_wC, asDat_wI, asDat_bv, asDat_wR, asDat_wS, asDat_wN, pds_nil, pds_dat, pds_wI, pds_wC, pds_wR, pds_bv, asI_I, pAdd_I, pSub_I, pCmp_I, pNeg_I, List.map_cons, List.map_nil, List.length_cons, List.length_nil, List.replicate_succ, List.replicate_zero, List.cons_append, List.nil_append, List.getElem?_cons_zero, List.getElem?_cons_succ, List.getD_cons_zero, List.getD_cons_succ, List.set_cons_zero, List.set_cons_succ, Nat.reduceAdd, Nat.reduceSub, Nat.reduceLT, Nat.reduceLeDiff, Nat.zero_lt_succ, if_true, if_false, Bool.false_eq_true, decide_true, decide_false, Bool.not_true, Bool.not_false, Bool.true_and, Bool.and_true, reduceIte, reduceCtorEq, Bool.true_eq_false, Bool.false_eq_true, not_true_eq_false, not_false_eq_true, fits0, fits1, fits2, fits3, fits4, pLen_B, pLen_Cs, pLen_C, pGet_C0, pGet_C1, pGet_K0, pGet_K1, pGet_Cs0, pEq_I, pEq_C, pEq_Cs, pEq_bl, pIn_Cs, pIn_D, items_Cs, items_B, items_R, stP]
  · rfl
  · exact ⟨hl, nd, hp⟩
  · intro x r s ⟨i1, i2, i3⟩
    simp only [List.length_cons] at i1
    rw [List.nodup_cons] at i2
    have hx := i3 x List.mem_cons_self
    have hput : gPut 2 (fV 6) (fC (.dat (.bool true))) (stP b k s f (.fz (wC c)) (.fz (wCs p)) (.fz (wC x))) = _ := gPut_C eT (f := unT s) (c := x) (x := ()) rfl rfl rfl (by rw [unT_keys]; exact hx) (by unfold unT; rw [List.length_map]; unfold sizeLine; omega)
    refine ⟨?_, by rw [List.length_append, List.length_singleton]; omega, i2.2, fun y hy hys => ?_⟩
    · have e : unT (s ++ [x]) = unT s ++ [(x, ())] := by unfold unT; rw [List.map_append]; rfl
      unfold stP at hput ⊢
      rw [e]
      simp only [fnSem, rho0, outW_rt, outW_nx, gSeq, Vd.gNil, gDo, gRet, gSet, gOwn, gIf, gAsg, gFrz, gKill, gThenKill, gThenFrz, gApp, gExt, gEx, nLst, fOt, otw, f1, f2, fT, fAnd, fOr, fNot, fAndV, fOrV, fNotV, fIf, fCal, aNil, aCons, fTup, fSl, oNo, oSo, fChain, fV, fO, fC, iVal, iL, setF, setO, nG, tupG, consG, nilG, killAt, frzAt, fzS, nDisp1T, fS1, cYes, unlG, bindok, bindex, bindno, noEx_ok, tb_bv, asDat_dat, asDat_wC, asDat_wI, asDat_bv, asDat_wR, asDat_wS, asDat_wN, pds_nil, pds_dat, pds_wI, pds_wC, pds_wR, pds_bv, asI_I, pAdd_I, pSub_I, pCmp_I, pNeg_I, List.map_cons, List.map_nil, List.length_cons, List.length_nil, List.replicate_succ, List.replicate_zero, List.cons_append, List.nil_append, List.getElem?_cons_zero, List.getElem?_cons_succ, List.getD_cons_zero, List.getD_cons_succ, List.set_cons_zero, List.set_cons_succ, Nat.reduceAdd, Nat.reduceSub, Nat.reduceLT, Nat.reduceLeDiff, Nat.zero_lt_succ, if_true, if_false, Bool.false_eq_true, decide_true, decide_false, Bool.not_true, Bool.not_false, Bool.true_and, Bool.and_true, reduceIte, reduceCtorEq, Bool.true_eq_false, Bool.false_eq_true, not_true_eq_false, not_false_eq_true, fits0, fits1, fits2, fits3, fits4, pLen_B, pLen_Cs, pLen_C, pGet_C0, pGet_C1, pGet_K0, pGet_K1, pGet_Cs0, pEq_I, pEq_C, pEq_Cs, pEq_bl, pIn_Cs, pIn_D, items_Cs, items_B, items_R, hput]
    · rcases List.mem_append.mp hys with h | h
      · exact i3 y (List.mem_cons_of_mem _ hy) h
      · simp at h; subst h; exact i2.1 hy
include g in
theorem patch_len {c : C2} (h : ins b c = true) : (patch b k c).length ≤ 64 := by
  unfold patch; rw [srtC_len]; unfold keys; rw [List.length_map]; exact spread_len g (k := k) h
theorem PrInv.len (g : Good b) {s : List C2 × List (List C2)} (I : PrInv b k s) : s.1.length ≤ 64 := by
  have h := nodup_le I.nd (m := allC b) fun c hc => allC_mem.mpr (I.in_ g hc)
  have := allC_len g
  omega
theorem prStep_len (s : List C2 × List (List C2)) (c : C2) : (prStep b k s c).2.length ≤ s.2.length + 1 := by
  unfold prStep; split <;> simp
include g hk in
theorem D_parted : F_parted [wB b, wI k] = .ok (wPs (parted b k)) := by
  simp only [fnSem, rho0, outW_rt, outW_nx, gSeq, Vd.gNil, gDo, gRet, gSet, gOwn, gIf, gAsg, gFrz, gKill, gThenKill, gThenFrz, gApp, gExt, gEx, nLst, fOt, otw, f1, f2, fT, fAnd, fOr, fNot, fAndV, fOrV, fNotV, fIf, fCal, aNil, aCons, fTup, fSl, oNo, oSo, fChain, fV, fO, fC, iVal, iL, setF, setO, nG, tupG, consG, nilG, killAt, frzAt, fzS, nDisp1T, fS1, cYes, unlG, bindok, bindex, bindno, noEx_ok, tb_bv, asDat_dat, asDat_wC, asDat_wI, asDat_bv, asDat_wR, asDat_wS, asDat_wN, pds_nil, pds_dat, pds_wI, pds_wC, pds_wR, pds_bv, asI_I, pAdd_I, pSub_I, pCmp_I, pNeg_I, List.map_cons, List.map_nil, List.length_cons, List.length_nil, List.replicate_succ, List.replicate_zero, List.cons_append, List.nil_append, List.getElem?_cons_zero, List.getElem?_cons_succ, List.getD_cons_zero, List.getD_cons_succ, List.set_cons_zero, List.set_cons_succ, Nat.reduceAdd, Nat.reduceSub, Nat.reduceLT, Nat.reduceLeDiff, Nat.zero_lt_succ, if_true, if_false, Bool.false_eq_true, decide_true, decide_false, Bool.not_true, Bool.not_false, Bool.true_and, Bool.and_true, reduceIte, reduceCtorEq, Bool.true_eq_false, Bool.false_eq_true, not_true_eq_false, not_false_eq_true, fits0, fits1, fits2, fits3, fits4, pLen_B, pLen_Cs, pLen_C, pGet_C0, pGet_C1, pGet_K0, pGet_K1, pGet_Cs0, pEq_I, pEq_C, pEq_Cs, pEq_bl, pIn_Cs, pIn_D, items_Cs, items_B, items_R, F_parted, g_parted, nDT]
  rw [gFor_inv wC (allC b) (fun s : List C2 × List (List C2) => stP b k s.1 s.2 .un .un .un) (prStep b k) (fun r s => PrInv b k s ∧ s.2.length + r.length ≤ 64 ∧ ∀ c ∈ r, ins b c = true) ([], [])]
  · simp only [fnSem, rho0, outW_rt, outW_nx, gSeq, Vd.gNil, gDo, gRet, gSet, gOwn, gIf, gAsg, gFrz, gKill, gThenKill, gThenFrz, gApp, gExt, gEx, nLst, fOt, otw, f1, f2, fT, fAnd, fOr, fNot, fAndV, fOrV, fNotV, fIf, fCal, aNil, aCons, fTup, fSl, oNo, oSo, fChain, fV, fO, fC, iVal, iL, setF, setO, nG, tupG, consG, nilG, killAt, frzAt, fzS, nDisp1T, fS1, cYes, unlG, bindok, bindex, bindno, noEx_ok, tb_bv, asDat_dat, asDat_wC, asDat_wI, asDat_bv, asDat_wR, asDat_wS, asDat_wN, pds_nil, pds_dat, pds_wI, pds_wC, pds_wR, pds_bv, asI_I, pAdd_I, pSub_I, pCmp_I, pNeg_I, List.map_cons, List.map_nil, List.length_cons, List.length_nil, List.replicate_succ, List.replicate_zero, List.cons_append, List.nil_append, List.getElem?_cons_zero, List.getElem?_cons_succ, List.getD_cons_zero, List.getD_cons_succ, List.set_cons_zero, List.set_cons_succ, Nat.reduceAdd, Nat.reduceSub, Nat.reduceLT, Nat.reduceLeDiff, Nat.zero_lt_succ, if_true, if_false, Bool.false_eq_true, decide_true, decide_false, Bool.not_true, Bool.not_false, Bool.true_and, Bool.and_true, reduceIte, reduceCtorEq, Bool.true_eq_false, Bool.false_eq_true, not_true_eq_false, not_false_eq_true, fits0, fits1, fits2, fits3, fits4, pLen_B, pLen_Cs, pLen_C, pGet_C0, pGet_C1, pGet_K0, pGet_K1, pGet_Cs0, pEq_I, pEq_C, pEq_Cs, pEq_bl, pIn_Cs, pIn_D, items_Cs, items_B, items_R, stP]
    rfl
  · simp only [fnSem, rho0, outW_rt, outW_nx, gSeq, Vd.gNil, gDo, gRet, gSet, gOwn, gIf, gAsg, gFrz, gKill, gThenKill, gThenFrz, gApp, gExt, gEx, nLst, fOt, otw, f1, f2, fT, fAnd, fOr, fNot, fAndV, fOrV, fNotV, fIf, fCal, aNil, aCons, fTup, fSl, oNo, oSo, fChain, fV, fO, fC, iVal, iL, setF, setO, nG, tupG, consG, nilG, killAt, frzAt, fzS, nDisp1T, fS1, cYes, unlG, bindok, bindex, bindno, noEx_ok, tb_bv, asDat_dat, asDat_wC, asDat_wI, asDat_bv, asDat_wR, asDat_wS, asDat_wN, pds_nil, pds_dat, pds_wI, pds_wC, pds_wR, pds_bv, asI_I, pAdd_I, pSub_I, pCmp_I, pNeg_I, List.map_cons, List.map_nil, List.length_cons, List.length_nil, List.replicate_succ, List.replicate_zero, List.cons_append, List.nil_append, List.getElem?_cons_zero, List.getElem?_cons_succ, List.getD_cons_zero, List.getD_cons_succ, List.set_cons_zero, List.set_cons_succ, Nat.reduceAdd, Nat.reduceSub, Nat.reduceLT, Nat.reduceLeDiff, Nat.zero_lt_succ, if_true, if_false, Bool.false_eq_true, decide_true, decide_false, Bool.not_true, Bool.not_false, Bool.true_and, Bool.and_true, reduceIte, reduceCtorEq, Bool.true_eq_false, Bool.false_eq_true, not_true_eq_false, not_false_eq_true, fits0, fits1, fits2, fits3, fits4, pLen_B, pLen_Cs, pLen_C, pGet_C0, pGet_C1, pGet_K0, pGet_K1, pGet_Cs0, pEq_I, pEq_C, pEq_Cs, pEq_bl, pIn_Cs, pIn_D, items_Cs, items_B, items_R, D_cells g]
  · rfl
  · have := allC_len g
    exact ⟨PrInv.start, by simpa using this, fun c hc => allC_mem.mp hc⟩
  · intro c r s ⟨i1, i2, i3⟩
    have hc := i3 c List.mem_cons_self
    simp only [List.length_cons] at i2
    refine ⟨?_, i1.step g hc, by have := prStep_len (b := b) (k := k) s c; omega, fun x hx => i3 x (List.mem_cons_of_mem _ hx)⟩
    have hm : (unT s.1).map (·.1) = s.1 := unT_keys s.1
    by_cases q : c ∈ s.1
    · have e : prStep b k s c = s := if_pos q
      rw [e]
      simp only [fnSem, rho0, outW_rt, outW_nx, gSeq, Vd.gNil, gDo, gRet, gSet, gOwn, gIf, gAsg, gFrz, gKill, gThenKill, gThenFrz, gApp, gExt, gEx, nLst, fOt, otw, f1, f2, fT, fAnd, fOr, fNot, fAndV, fOrV, fNotV, fIf, fCal, aNil, aCons, fTup, fSl, oNo, oSo, fChain, fV, fO, fC, iVal, iL, setF, setO, nG, tupG, consG, nilG, killAt, frzAt, fzS, nDisp1T, fS1, cYes, unlG, bindok, bindex, bindno, noEx_ok, tb_bv, asDat_dat, asDat_wC, asDat_wI, asDat_bv, asDat_wR, asDat_wS, asDat_wN, pds_nil, pds_dat, pds_wI, pds_wC, pds_wR, pds_bv, asI_I, pAdd_I, pSub_I, pCmp_I, pNeg_I, List.map_cons, List.map_nil, List.length_cons, List.length_nil, List.replicate_succ, List.replicate_zero, List.cons_append, List.nil_append, List.getElem?_cons_zero, List.getElem?_cons_succ, List.getD_cons_zero, List.getD_cons_succ, List.set_cons_zero, List.set_cons_succ, Nat.reduceAdd, Nat.reduceSub, Nat.reduceLT, Nat.reduceLeDiff, Nat.zero_lt_succ, if_true, if_false, Bool.false_eq_true, decide_true, decide_false, Bool.not_true, Bool.not_false, Bool.true_and, Bool.and_true, reduceIte, reduceCtorEq, Bool.true_eq_false, Bool.false_eq_true, not_true_eq_false, not_false_eq_true, fits0, fits1, fits2, fits3, fits4, pLen_B, pLen_Cs, pLen_C, pGet_C0, pGet_C1, pGet_K0, pGet_K1, pGet_Cs0, pEq_I, pEq_C, pEq_Cs, pEq_bl, pIn_Cs, pIn_D, items_Cs, items_B, items_R, stP, hm, q]
    · have e : prStep b k s c = (s.1 ++ patch b k c, s.2 ++ [patch b k c]) := if_neg q
      rw [e]
      have hl : (spread b k c).length ≤ sizeLine := by have := spread_len g (k := k) hc; unfold sizeLine; omega
      have hs := pSorted_D pO (spread b k c) hl
      have hf : (s.2.map pCs).length < sizeLine := by rw [List.length_map]; unfold sizeLine; omega
      have hseen := D_seen (b := b) (k := k) s.1 (s.2 ++ [patch b k c]) c (patch b k c) (patch_nodup g hc) (i1.free g hc q) (by have := i1.len g; have := patch_len g (k := k) hc; omega)
      unfold stP at hseen ⊢
      have e2 : (s.2 ++ [patch b k c]).map pCs = s.2.map pCs ++ [pCs (patch b k c)] := by rw [List.map_append]; rfl
      rw [e2] at hseen
      have e3 : wCs (srtC ((spread b k c).map (·.1))) = wCs (patch b k c) := rfl
      have e4 : asDat (wCs (patch b k c)) = .ok (pCs (patch b k c)) := rfl
      simp only [fnSem, rho0, outW_rt, outW_nx, gSeq, Vd.gNil, gDo, gRet, gSet, gOwn, gIf, gAsg, gFrz, gKill, gThenKill, gThenFrz, gApp, gExt, gEx, nLst, fOt, otw, f1, f2, fT, fAnd, fOr, fNot, fAndV, fOrV, fNotV, fIf, fCal, aNil, aCons, fTup, fSl, oNo, oSo, fChain, fV, fO, fC, iVal, iL, setF, setO, nG, tupG, consG, nilG, killAt, frzAt, fzS, nDisp1T, fS1, cYes, unlG, bindok, bindex, bindno, noEx_ok, tb_bv, asDat_dat, asDat_wC, asDat_wI, asDat_bv, asDat_wR, asDat_wS, asDat_wN, pds_nil, pds_dat, pds_wI, pds_wC, pds_wR, pds_bv, asI_I, pAdd_I, pSub_I, pCmp_I, pNeg_I, List.map_cons, List.map_nil, List.length_cons, List.length_nil, List.replicate_succ, List.replicate_zero, List.cons_append, List.nil_append, List.getElem?_cons_zero, List.getElem?_cons_succ, List.getD_cons_zero, List.getD_cons_succ, List.set_cons_zero, List.set_cons_succ, Nat.reduceAdd, Nat.reduceSub, Nat.reduceLT, Nat.reduceLeDiff, Nat.zero_lt_succ, if_true, if_false, Bool.false_eq_true, decide_true, decide_false, Bool.not_true, Bool.not_false, Bool.true_and, Bool.and_true, reduceIte, reduceCtorEq, Bool.true_eq_false, Bool.false_eq_true, not_true_eq_false, not_false_eq_true, fits0, fits1, fits2, fits3, fits4, pLen_B, pLen_Cs, pLen_C, pGet_C0, pGet_C1, pGet_K0, pGet_K1, pGet_Cs0, pEq_I, pEq_C, pEq_Cs, pEq_bl, pIn_Cs, pIn_D, items_Cs, items_B, items_R, hm, q, D_spread g hk hc, wD, hs, e3, e4, hf, hseen, e2]
theorem pLen_Ps (ps : List (List C2)) : pLen [wPs ps] = .ok (wI ps.length) := by simp [pLen, wPs, pPs]
include g hk in
theorem D_patches : F_patches [wB b, wI k] = .ok (wPs (parted b k)) := by
  simp only [fnSem, rho0, outW_rt, outW_nx, gSeq, Vd.gNil, gDo, gRet, gSet, gOwn, gIf, gAsg, gFrz, gKill, gThenKill, gThenFrz, gApp, gExt, gEx, nLst, fOt, otw, f1, f2, fT, fAnd, fOr, fNot, fAndV, fOrV, fNotV, fIf, fCal, aNil, aCons, fTup, fSl, oNo, oSo, fChain, fV, fO, fC, iVal, iL, setF, setO, nG, tupG, consG, nilG, killAt, frzAt, fzS, nDisp1T, fS1, cYes, unlG, bindok, bindex, bindno, noEx_ok, tb_bv, asDat_dat, asDat_wC, asDat_wI, asDat_bv, asDat_wR, asDat_wS, asDat_wN, pds_nil, pds_dat, pds_wI, pds_wC, pds_wR, pds_bv, asI_I, pAdd_I, pSub_I, pCmp_I, pNeg_I, List.map_cons, List.map_nil, List.length_cons, List.length_nil, List.replicate_succ, List.replicate_zero, List.cons_append, List.nil_append, List.getElem?_cons_zero, List.getElem?_cons_succ, List.getD_cons_zero, List.getD_cons_succ, List.set_cons_zero, List.set_cons_succ, Nat.reduceAdd, Nat.reduceSub, Nat.reduceLT, Nat.reduceLeDiff, Nat.zero_lt_succ, if_true, if_false, Bool.false_eq_true, decide_true, decide_false, Bool.not_true, Bool.not_false, Bool.true_and, Bool.and_true, reduceIte, reduceCtorEq, Bool.true_eq_false, Bool.false_eq_true, not_true_eq_false, not_false_eq_true, fits0, fits1, fits2, fits3, fits4, pLen_B, pLen_Cs, pLen_C, pGet_C0, pGet_C1, pGet_K0, pGet_K1, pGet_Cs0, pEq_I, pEq_C, pEq_Cs, pEq_bl, pIn_Cs, pIn_D, items_Cs, items_B, items_R, F_patches, g_patches, D_need_both g hk, D_parted g hk]
include g hk in
theorem D_how_many : F_how_many [wB b, wI k] = .ok (wI (parted b k).length) := by
  simp only [fnSem, rho0, outW_rt, outW_nx, gSeq, Vd.gNil, gDo, gRet, gSet, gOwn, gIf, gAsg, gFrz, gKill, gThenKill, gThenFrz, gApp, gExt, gEx, nLst, fOt, otw, f1, f2, fT, fAnd, fOr, fNot, fAndV, fOrV, fNotV, fIf, fCal, aNil, aCons, fTup, fSl, oNo, oSo, fChain, fV, fO, fC, iVal, iL, setF, setO, nG, tupG, consG, nilG, killAt, frzAt, fzS, nDisp1T, fS1, cYes, unlG, bindok, bindex, bindno, noEx_ok, tb_bv, asDat_dat, asDat_wC, asDat_wI, asDat_bv, asDat_wR, asDat_wS, asDat_wN, pds_nil, pds_dat, pds_wI, pds_wC, pds_wR, pds_bv, asI_I, pAdd_I, pSub_I, pCmp_I, pNeg_I, List.map_cons, List.map_nil, List.length_cons, List.length_nil, List.replicate_succ, List.replicate_zero, List.cons_append, List.nil_append, List.getElem?_cons_zero, List.getElem?_cons_succ, List.getD_cons_zero, List.getD_cons_succ, List.set_cons_zero, List.set_cons_succ, Nat.reduceAdd, Nat.reduceSub, Nat.reduceLT, Nat.reduceLeDiff, Nat.zero_lt_succ, if_true, if_false, Bool.false_eq_true, decide_true, decide_false, Bool.not_true, Bool.not_false, Bool.true_and, Bool.and_true, reduceIte, reduceCtorEq, Bool.true_eq_false, Bool.false_eq_true, not_true_eq_false, not_false_eq_true, fits0, fits1, fits2, fits3, fits4, pLen_B, pLen_Cs, pLen_C, pGet_C0, pGet_C1, pGet_K0, pGet_K1, pGet_Cs0, pEq_I, pEq_C, pEq_Cs, pEq_bl, pIn_Cs, pIn_D, items_Cs, items_B, items_R, F_how_many, g_how_many, D_patches g hk, pLen_Ps]
end

end Cp


/-! P3: places, numbered. -/
namespace Cp

open L2 PyProof.Rows PySem PySem.Spec Vd Bf

def eN : Nat → Pd := fun n => .int (n : Nat)
def encP (q : List C2 × Nat) : W := .dat (.tuple [.int (q.2 : Nat), pCs q.1])
theorem enumD_zip : ∀ (ps : List (List C2)) (j : Nat), enumD j (ps.map pCs) = (ps.zipIdx j).map encP
  | [], _ => rfl
  | p :: ps, j => by simp only [List.map_cons, enumD, List.zipIdx_cons, enumD_zip ps (j + 1)]; rfl
theorem enum1_Ps (ps : List (List C2)) : enum1 [wPs ps] = .ok ((ps.zipIdx 0).map encP) := by
  show R.ok (enumD 0 (ps.map pCs)) = _
  rw [enumD_zip]
def stQ (ps : List (List C2)) (f : List (C2 × Nat)) (x y z : Sl) : Rho := [.fz (wPs ps), .ow (.dT (dCs eN f)), x, y, z]
theorem D_put_all (ps : List (List C2)) (f0 : List (C2 × Nat)) (n : Nat) (p : List C2) (nd : p.Nodup) (hp : ∀ x ∈ p, x ∉ f0.map (·.1)) (hl : f0.length + p.length ≤ 1000) :
    gFor (iVal (fV 3)) (nG 4) (gThenKill [4] (gPut 1 (fV 4) (fV 2))) (stQ ps f0 (.fz (wI n)) (.fz (wCs p)) .un) = .ok (.nx (stQ ps (f0 ++ p.map fun x => (x, n)) (.fz (wI n)) (.fz (wCs p)) .un)) := by
  rw [gFor_inv wC p (fun f : List (C2 × Nat) => stQ ps f (.fz (wI n)) (.fz (wCs p)) .un) (fun f x => f ++ [(x, n)]) (fun r f => f.length + r.length ≤ 1000 ∧ r.Nodup ∧ ∀ x ∈ r, x ∉ f.map (·.1)) f0]
  · have : ∀ (l : List C2) (s : List (C2 × Nat)), l.foldl (fun s x => s ++ [(x, n)]) s = s ++ l.map fun x => (x, n) := fun l => by
      induction l with
      | nil => intro s; simp
      | cons a l ih => intro s; rw [List.foldl_cons, ih]; simp
    rw [this]
  · simp only [fnSem, rho0, outW_rt, outW_nx, gSeq, Vd.gNil, gDo, gRet, gSet, gOwn, gIf, gAsg, gFrz, gKill, gThenKill, gThenFrz, gApp, gExt, gEx, nLst, fOt, otw, f1, f2, fT, fAnd, fOr, fNot, fAndV, fOrV, fNotV, fIf, fCal, aNil, aCons, fTup, fSl, oNo, oSo, fChain, fV, fO, fC, iVal, iL, setF, setO, nG, tupG, consG, nilG, killAt, frzAt, fzS, nDisp1T, fS1, cYes, unlG, bindok, bindex, bindno, noEx_ok, tb_bv, asDat_dat, asDat_wC, asDat_wI, asDat_bv, asDat_wR, asDat_wS, asDat_wN, pds_nil, pds_dat, pds_wI, pds_wC, pds_wR, pds_bv, asI_I, pAdd_I, pSub_I, pCmp_I, pNeg_I, List.map_cons, List.map_nil, List.length_cons, List.length_nil, List.replicate_succ, List.replicate_zero, List.cons_append, List.nil_append, List.getElem?_cons_zero, List.getElem?_cons_succ, List.getD_cons_zero, List.getD_cons_succ, List.set_cons_zero, List.set_cons_succ, Nat.reduceAdd, Nat.reduceSub, Nat.reduceLT, Nat.reduceLeDiff, Nat.zero_lt_succ, if_true, if_false, Bool.false_eq_true, decide_true, decide_false, Bool.not_true, Bool.not_false, Bool.true_and, Bool.and_true, reduceIte, reduceCtorEq, Bool.true_eq_false, Bool.false_eq_true, not_true_eq_false, not_false_eq_true, fits0, fits1, fits2, fits3, fits4, pLen_B, pLen_Cs, pLen_C, pGet_C0, pGet_C1, pGet_K0, pGet_K1, pGet_Cs0, pEq_I, pEq_C, pEq_Cs, pEq_bl, pIn_Cs, pIn_D, items_Cs, items_B, items_R, stQ]
  · rfl
  · exact ⟨hl, nd, hp⟩
  · intro x r f ⟨i1, i2, i3⟩
    simp only [List.length_cons] at i1
    rw [List.nodup_cons] at i2
    have hx := i3 x List.mem_cons_self
    have hput : gPut 1 (fV 4) (fV 2) (stQ ps f (.fz (wI n)) (.fz (wCs p)) (.fz (wC x))) = _ := gPut_C eN (f := f) (c := x) (x := n) rfl rfl rfl hx (by unfold sizeLine; omega)
    refine ⟨?_, by rw [List.length_append, List.length_singleton]; omega, i2.2, fun y hy hys => ?_⟩
    · unfold stQ at hput ⊢
      simp only [fnSem, rho0, outW_rt, outW_nx, gSeq, Vd.gNil, gDo, gRet, gSet, gOwn, gIf, gAsg, gFrz, gKill, gThenKill, gThenFrz, gApp, gExt, gEx, nLst, fOt, otw, f1, f2, fT, fAnd, fOr, fNot, fAndV, fOrV, fNotV, fIf, fCal, aNil, aCons, fTup, fSl, oNo, oSo, fChain, fV, fO, fC, iVal, iL, setF, setO, nG, tupG, consG, nilG, killAt, frzAt, fzS, nDisp1T, fS1, cYes, unlG, bindok, bindex, bindno, noEx_ok, tb_bv, asDat_dat, asDat_wC, asDat_wI, asDat_bv, asDat_wR, asDat_wS, asDat_wN, pds_nil, pds_dat, pds_wI, pds_wC, pds_wR, pds_bv, asI_I, pAdd_I, pSub_I, pCmp_I, pNeg_I, List.map_cons, List.map_nil, List.length_cons, List.length_nil, List.replicate_succ, List.replicate_zero, List.cons_append, List.nil_append, List.getElem?_cons_zero, List.getElem?_cons_succ, List.getD_cons_zero, List.getD_cons_succ, List.set_cons_zero, List.set_cons_succ, Nat.reduceAdd, Nat.reduceSub, Nat.reduceLT, Nat.reduceLeDiff, Nat.zero_lt_succ, if_true, if_false, Bool.false_eq_true, decide_true, decide_false, Bool.not_true, Bool.not_false, Bool.true_and, Bool.and_true, reduceIte, reduceCtorEq, Bool.true_eq_false, Bool.false_eq_true, not_true_eq_false, not_false_eq_true, fits0, fits1, fits2, fits3, fits4, pLen_B, pLen_Cs, pLen_C, pGet_C0, pGet_C1, pGet_K0, pGet_K1, pGet_Cs0, pEq_I, pEq_C, pEq_Cs, pEq_bl, pIn_Cs, pIn_D, items_Cs, items_B, items_R, hput]
    · rw [List.map_append] at hys
      rcases List.mem_append.mp hys with h | h
      · exact i3 y (List.mem_cons_of_mem _ hy) h
      · simp at h; subst h; exact i2.1 hy
def placesL (ps : List (List C2)) : List (C2 × Nat) := (ps.zipIdx 0).foldl (fun f q => f ++ q.1.map fun x => (x, q.2)) []
theorem D_places (ps : List (List C2)) (nd : ps.flatten.Nodup) (hl : ps.flatten.length ≤ 1000) : F_places [wPs ps] = .ok (.dT (dCs eN (placesL ps))) := by
  simp only [fnSem, rho0, outW_rt, outW_nx, gSeq, Vd.gNil, gDo, gRet, gSet, gOwn, gIf, gAsg, gFrz, gKill, gThenKill, gThenFrz, gApp, gExt, gEx, nLst, fOt, otw, f1, f2, fT, fAnd, fOr, fNot, fAndV, fOrV, fNotV, fIf, fCal, aNil, aCons, fTup, fSl, oNo, oSo, fChain, fV, fO, fC, iVal, iL, setF, setO, nG, tupG, consG, nilG, killAt, frzAt, fzS, nDisp1T, fS1, cYes, unlG, bindok, bindex, bindno, noEx_ok, tb_bv, asDat_dat, asDat_wC, asDat_wI, asDat_bv, asDat_wR, asDat_wS, asDat_wN, pds_nil, pds_dat, pds_wI, pds_wC, pds_wR, pds_bv, asI_I, pAdd_I, pSub_I, pCmp_I, pNeg_I, List.map_cons, List.map_nil, List.length_cons, List.length_nil, List.replicate_succ, List.replicate_zero, List.cons_append, List.nil_append, List.getElem?_cons_zero, List.getElem?_cons_succ, List.getD_cons_zero, List.getD_cons_succ, List.set_cons_zero, List.set_cons_succ, Nat.reduceAdd, Nat.reduceSub, Nat.reduceLT, Nat.reduceLeDiff, Nat.zero_lt_succ, if_true, if_false, Bool.false_eq_true, decide_true, decide_false, Bool.not_true, Bool.not_false, Bool.true_and, Bool.and_true, reduceIte, reduceCtorEq, Bool.true_eq_false, Bool.false_eq_true, not_true_eq_false, not_false_eq_true, fits0, fits1, fits2, fits3, fits4, pLen_B, pLen_Cs, pLen_C, pGet_C0, pGet_C1, pGet_K0, pGet_K1, pGet_Cs0, pEq_I, pEq_C, pEq_Cs, pEq_bl, pIn_Cs, pIn_D, items_Cs, items_B, items_R, F_places, g_places, nDT]
  rw [gFor_inv encP (ps.zipIdx 0) (fun f : List (C2 × Nat) => stQ ps f .un .un .un) (fun f q => f ++ q.1.map fun x => (x, q.2)) (fun r f => (f.map (·.1) ++ (r.map (·.1)).flatten).Nodup ∧ f.length + (r.map (·.1)).flatten.length ≤ 1000) []]
  · simp only [fnSem, rho0, outW_rt, outW_nx, gSeq, Vd.gNil, gDo, gRet, gSet, gOwn, gIf, gAsg, gFrz, gKill, gThenKill, gThenFrz, gApp, gExt, gEx, nLst, fOt, otw, f1, f2, fT, fAnd, fOr, fNot, fAndV, fOrV, fNotV, fIf, fCal, aNil, aCons, fTup, fSl, oNo, oSo, fChain, fV, fO, fC, iVal, iL, setF, setO, nG, tupG, consG, nilG, killAt, frzAt, fzS, nDisp1T, fS1, cYes, unlG, bindok, bindex, bindno, noEx_ok, tb_bv, asDat_dat, asDat_wC, asDat_wI, asDat_bv, asDat_wR, asDat_wS, asDat_wN, pds_nil, pds_dat, pds_wI, pds_wC, pds_wR, pds_bv, asI_I, pAdd_I, pSub_I, pCmp_I, pNeg_I, List.map_cons, List.map_nil, List.length_cons, List.length_nil, List.replicate_succ, List.replicate_zero, List.cons_append, List.nil_append, List.getElem?_cons_zero, List.getElem?_cons_succ, List.getD_cons_zero, List.getD_cons_succ, List.set_cons_zero, List.set_cons_succ, Nat.reduceAdd, Nat.reduceSub, Nat.reduceLT, Nat.reduceLeDiff, Nat.zero_lt_succ, if_true, if_false, Bool.false_eq_true, decide_true, decide_false, Bool.not_true, Bool.not_false, Bool.true_and, Bool.and_true, reduceIte, reduceCtorEq, Bool.true_eq_false, Bool.false_eq_true, not_true_eq_false, not_false_eq_true, fits0, fits1, fits2, fits3, fits4, pLen_B, pLen_Cs, pLen_C, pGet_C0, pGet_C1, pGet_K0, pGet_K1, pGet_Cs0, pEq_I, pEq_C, pEq_Cs, pEq_bl, pIn_Cs, pIn_D, items_Cs, items_B, items_R, stQ]
    rfl
  · simp only [fnSem, rho0, outW_rt, outW_nx, gSeq, Vd.gNil, gDo, gRet, gSet, gOwn, gIf, gAsg, gFrz, gKill, gThenKill, gThenFrz, gApp, gExt, gEx, nLst, fOt, otw, f1, f2, fT, fAnd, fOr, fNot, fAndV, fOrV, fNotV, fIf, fCal, aNil, aCons, fTup, fSl, oNo, oSo, fChain, fV, fO, fC, iVal, iL, setF, setO, nG, tupG, consG, nilG, killAt, frzAt, fzS, nDisp1T, fS1, cYes, unlG, bindok, bindex, bindno, noEx_ok, tb_bv, asDat_dat, asDat_wC, asDat_wI, asDat_bv, asDat_wR, asDat_wS, asDat_wN, pds_nil, pds_dat, pds_wI, pds_wC, pds_wR, pds_bv, asI_I, pAdd_I, pSub_I, pCmp_I, pNeg_I, List.map_cons, List.map_nil, List.length_cons, List.length_nil, List.replicate_succ, List.replicate_zero, List.cons_append, List.nil_append, List.getElem?_cons_zero, List.getElem?_cons_succ, List.getD_cons_zero, List.getD_cons_succ, List.set_cons_zero, List.set_cons_succ, Nat.reduceAdd, Nat.reduceSub, Nat.reduceLT, Nat.reduceLeDiff, Nat.zero_lt_succ, if_true, if_false, Bool.false_eq_true, decide_true, decide_false, Bool.not_true, Bool.not_false, Bool.true_and, Bool.and_true, reduceIte, reduceCtorEq, Bool.true_eq_false, Bool.false_eq_true, not_true_eq_false, not_false_eq_true, fits0, fits1, fits2, fits3, fits4, pLen_B, pLen_Cs, pLen_C, pGet_C0, pGet_C1, pGet_K0, pGet_K1, pGet_Cs0, pEq_I, pEq_C, pEq_Cs, pEq_bl, pIn_Cs, pIn_D, items_Cs, items_B, items_R, enum1_Ps]
  · rfl
  · have e : (ps.zipIdx 0).map (·.1) = ps := by simp
    rw [e]; exact ⟨by simpa using nd, by simpa using hl⟩
  · intro q r f ⟨i1, i2⟩
    simp only [List.map_cons, List.flatten_cons, List.length_append] at i1 i2
    have n1 : q.1.Nodup := by
      rw [List.nodup_append] at i1
      exact (List.nodup_append.mp i1.2.1).1
    have n2 : ∀ x ∈ q.1, x ∉ f.map (·.1) := fun x hx hf => by
      rw [List.nodup_append] at i1
      exact i1.2.2 x hf x (List.mem_append_left _ hx) rfl
    have hp := D_put_all ps f q.2 q.1 n1 n2 (by omega)
    have ht : ∀ (t : List W → Rho → R Rho) (ρ : Rho), tupG 2 t (encP q) ρ = t [wI q.2, wCs q.1] ρ := fun t ρ => rfl
    refine ⟨?_, ?_, ?_⟩
    · unfold stQ at hp ⊢
      simp only [fnSem, rho0, outW_rt, outW_nx, gSeq, Vd.gNil, gDo, gRet, gSet, gOwn, gIf, gAsg, gFrz, gKill, gThenKill, gThenFrz, gApp, gExt, gEx, nLst, fOt, otw, f1, f2, fT, fAnd, fOr, fNot, fAndV, fOrV, fNotV, fIf, fCal, aNil, aCons, fTup, fSl, oNo, oSo, fChain, fV, fO, fC, iVal, iL, setF, setO, nG, consG, nilG, killAt, frzAt, fzS, nDisp1T, fS1, cYes, unlG, bindok, bindex, bindno, noEx_ok, tb_bv, asDat_dat, asDat_wC, asDat_wI, asDat_bv, asDat_wR, asDat_wS, asDat_wN, pds_nil, pds_dat, pds_wI, pds_wC, pds_wR, pds_bv, asI_I, pAdd_I, pSub_I, pCmp_I, pNeg_I, List.map_cons, List.map_nil, List.length_cons, List.length_nil, List.replicate_succ, List.replicate_zero, List.cons_append, List.nil_append, List.getElem?_cons_zero, List.getElem?_cons_succ, List.getD_cons_zero, List.getD_cons_succ, List.set_cons_zero, List.set_cons_succ, Nat.reduceAdd, Nat.reduceSub, Nat.reduceLT, Nat.reduceLeDiff, Nat.zero_lt_succ, if_true, if_false, Bool.false_eq_true, decide_true, decide_false, Bool.not_true, Bool.not_false, Bool.true_and, Bool.and_true, reduceIte, reduceCtorEq, Bool.true_eq_false, Bool.false_eq_true, not_true_eq_false, not_false_eq_true, fits0, fits1, fits2, fits3, fits4, pLen_B, pLen_Cs, pLen_C, pGet_C0, pGet_C1, pGet_K0, pGet_K1, pGet_Cs0, pEq_I, pEq_C, pEq_Cs, pEq_bl, pIn_Cs, pIn_D, items_Cs, items_B, items_R, ht, hp]
    · have e : (f ++ q.1.map fun x => (x, q.2)).map (·.1) = f.map (·.1) ++ q.1 := by rw [List.map_append, List.map_map]; simp [Function.comp_def]
      rw [e, List.append_assoc]; exact i1
    · rw [List.length_append, List.length_map]; omega
end Cp


/-! P4: letters at cells. -/
namespace Cp

open L2 PyProof.Rows PySem PySem.Spec Vd Bf

theorem D_letter_at {b : Bd} (g : Good b) {c : C2} (h : ins b c = true) : F_letter_at [wB b, wC c] = .ok (wS [Vd.ltr b c]) := by
  simp only [fnSem, rho0, outW_rt, outW_nx, gSeq, Vd.gNil, gDo, gRet, gSet, gOwn, gIf, gAsg, gFrz, gKill, gThenKill, gThenFrz, gApp, gExt, gEx, nLst, fOt, otw, f1, f2, fT, fAnd, fOr, fNot, fAndV, fOrV, fNotV, fIf, fCal, aNil, aCons, fTup, fSl, oNo, oSo, fChain, fV, fO, fC, iVal, iL, setF, setO, nG, tupG, consG, nilG, killAt, frzAt, fzS, nDisp1T, fS1, cYes, unlG, bindok, bindex, bindno, noEx_ok, tb_bv, asDat_dat, asDat_wC, asDat_wI, asDat_bv, asDat_wR, asDat_wS, asDat_wN, pds_nil, pds_dat, pds_wI, pds_wC, pds_wR, pds_bv, asI_I, pAdd_I, pSub_I, pCmp_I, pNeg_I, List.map_cons, List.map_nil, List.length_cons, List.length_nil, List.replicate_succ, List.replicate_zero, List.cons_append, List.nil_append, List.getElem?_cons_zero, List.getElem?_cons_succ, List.getD_cons_zero, List.getD_cons_succ, List.set_cons_zero, List.set_cons_succ, Nat.reduceAdd, Nat.reduceSub, Nat.reduceLT, Nat.reduceLeDiff, Nat.zero_lt_succ, if_true, if_false, Bool.false_eq_true, decide_true, decide_false, Bool.not_true, Bool.not_false, Bool.true_and, Bool.and_true, reduceIte, reduceCtorEq, Bool.true_eq_false, Bool.false_eq_true, not_true_eq_false, not_false_eq_true, fits0, fits1, fits2, fits3, fits4, pLen_B, pLen_Cs, pLen_C, pGet_C0, pGet_C1, pGet_K0, pGet_K1, pGet_Cs0, pEq_I, pEq_C, pEq_Cs, pEq_bl, pIn_Cs, pIn_D, items_Cs, items_B, items_R, F_letter_at, g_letter_at, D_need_board g, D_need_cell g h, g.get2 h]
def numAt (ps : List (List C2)) (c : C2) : Nat := (lkC (placesL ps) c).getD 0
def wNum (b : Bd) (f : C2 → Nat) : W := .dat (.list ((List.range b.length).map fun i : Nat => .list ((List.range (wd b)).map fun j : Nat => .int (f ((i : Int), (j : Int)) : Nat))))
theorem placesL_fl (l : List (List C2 × Nat)) (f : List (C2 × Nat)) : (l.foldl (fun f q => f ++ q.1.map fun x => (x, q.2)) f).map (·.1) = f.map (·.1) ++ (l.map (·.1)).flatten := by
  induction l generalizing f with
  | nil => simp
  | cons q l ih =>
    rw [List.foldl_cons, ih, List.map_append, List.map_map]
    simp [Function.comp_def]
theorem placesL_keys (ps : List (List C2)) : (placesL ps).map (·.1) = ps.flatten := by
  unfold placesL
  rw [placesL_fl]
  simp
theorem lkC_some {α : Type} {f : List (C2 × α)} {c : C2} (h : c ∈ f.map (·.1)) : ∃ x, lkC f c = some x ∧ (c, x) ∈ f := by
  have h1 := lkC_none f c
  rw [decide_eq_true h] at h1
  obtain ⟨x, hx⟩ := Option.isSome_iff_exists.mp h1
  refine ⟨x, hx, ?_⟩
  unfold lkC at hx
  obtain ⟨p, hp, rfl⟩ := Option.map_eq_some_iff.mp hx
  have h2 := List.find?_some hp
  simp at h2
  rw [← h2]
  exact List.mem_of_find?_eq_some hp
theorem D_numbered {b : Bd} (g : Good b) {k : Int} (hk : k = 4 ∨ k = 8) : F_numbered [wB b, wI k] = .ok (wNum b (numAt (parted b k))) := by
  have I := parted_inv (k := k) g
  have a1 := g.h8
  have a2 := g.w8
  have nd : (parted b k).flatten.Nodup := by have := I.nd; rw [I.fl] at this; exact this
  have hl : (parted b k).flatten.length ≤ 1000 := by have := I.len g; rw [I.fl] at this; exact Nat.le_trans this (by omega)
  simp only [fnSem, rho0, outW_rt, outW_nx, gSeq, Vd.gNil, gDo, gRet, gSet, gOwn, gIf, gAsg, gFrz, gKill, gThenKill, gThenFrz, gApp, gExt, gEx, nLst, fOt, otw, f1, f2, fT, fAnd, fOr, fNot, fAndV, fOrV, fNotV, fIf, fCal, aNil, aCons, fTup, fSl, oNo, oSo, fChain, fV, fO, fC, iVal, iL, setF, setO, nG, tupG, consG, nilG, killAt, frzAt, fzS, nDisp1T, fS1, cYes, unlG, bindok, bindex, bindno, noEx_ok, tb_bv, asDat_dat, asDat_wC, asDat_wI, asDat_bv, asDat_wR, asDat_wS, asDat_wN, pds_nil, pds_dat, pds_wI, pds_wC, pds_wR, pds_bv, asI_I, pAdd_I, pSub_I, pCmp_I, pNeg_I, List.map_cons, List.map_nil, List.length_cons, List.length_nil, List.replicate_succ, List.replicate_zero, List.cons_append, List.nil_append, List.getElem?_cons_zero, List.getElem?_cons_succ, List.getD_cons_zero, List.getD_cons_succ, List.set_cons_zero, List.set_cons_succ, Nat.reduceAdd, Nat.reduceSub, Nat.reduceLT, Nat.reduceLeDiff, Nat.zero_lt_succ, if_true, if_false, Bool.false_eq_true, decide_true, decide_false, Bool.not_true, Bool.not_false, Bool.true_and, Bool.and_true, reduceIte, reduceCtorEq, Bool.true_eq_false, Bool.false_eq_true, not_true_eq_false, not_false_eq_true, fits0, fits1, fits2, fits3, fits4, pLen_B, pLen_Cs, pLen_C, pGet_C0, pGet_C1, pGet_K0, pGet_K1, pGet_Cs0, pEq_I, pEq_C, pEq_Cs, pEq_bl, pIn_Cs, pIn_D, items_Cs, items_B, items_R, F_numbered, g_numbered, D_patches g hk, D_places _ nd hl]
  rw [nLc_all (fun i : Nat => wI (i : Nat)) (List.range b.length) (fun i : Nat => .list ((List.range (wd b)).map fun j : Nat => .int (numAt (parted b k) ((i : Int), (j : Int)) : Nat)))]
  · simp only [fnSem, rho0, outW_rt, outW_nx, gSeq, Vd.gNil, gDo, gRet, gSet, gOwn, gIf, gAsg, gFrz, gKill, gThenKill, gThenFrz, gApp, gExt, gEx, nLst, fOt, otw, f1, f2, fT, fAnd, fOr, fNot, fAndV, fOrV, fNotV, fIf, fCal, aNil, aCons, fTup, fSl, oNo, oSo, fChain, fV, fO, fC, iVal, iL, setF, setO, nG, tupG, consG, nilG, killAt, frzAt, fzS, nDisp1T, fS1, cYes, unlG, bindok, bindex, bindno, noEx_ok, tb_bv, asDat_dat, asDat_wC, asDat_wI, asDat_bv, asDat_wR, asDat_wS, asDat_wN, pds_nil, pds_dat, pds_wI, pds_wC, pds_wR, pds_bv, asI_I, pAdd_I, pSub_I, pCmp_I, pNeg_I, List.map_cons, List.map_nil, List.length_cons, List.length_nil, List.replicate_succ, List.replicate_zero, List.cons_append, List.nil_append, List.getElem?_cons_zero, List.getElem?_cons_succ, List.getD_cons_zero, List.getD_cons_succ, List.set_cons_zero, List.set_cons_succ, Nat.reduceAdd, Nat.reduceSub, Nat.reduceLT, Nat.reduceLeDiff, Nat.zero_lt_succ, if_true, if_false, Bool.false_eq_true, decide_true, decide_false, Bool.not_true, Bool.not_false, Bool.true_and, Bool.and_true, reduceIte, reduceCtorEq, Bool.true_eq_false, Bool.false_eq_true, not_true_eq_false, not_false_eq_true, fits0, fits1, fits2, fits3, fits4, pLen_B, pLen_Cs, pLen_C, pGet_C0, pGet_C1, pGet_K0, pGet_K1, pGet_Cs0, pEq_I, pEq_C, pEq_Cs, pEq_bl, pIn_Cs, pIn_D, items_Cs, items_B, items_R]
    rfl
  · simp only [fnSem, rho0, outW_rt, outW_nx, gSeq, Vd.gNil, gDo, gRet, gSet, gOwn, gIf, gAsg, gFrz, gKill, gThenKill, gThenFrz, gApp, gExt, gEx, nLst, fOt, otw, f1, f2, fT, fAnd, fOr, fNot, fAndV, fOrV, fNotV, fIf, fCal, aNil, aCons, fTup, fSl, oNo, oSo, fChain, fV, fO, fC, iVal, iL, setF, setO, nG, tupG, consG, nilG, killAt, frzAt, fzS, nDisp1T, fS1, cYes, unlG, bindok, bindex, bindno, noEx_ok, tb_bv, asDat_dat, asDat_wC, asDat_wI, asDat_bv, asDat_wR, asDat_wS, asDat_wN, pds_nil, pds_dat, pds_wI, pds_wC, pds_wR, pds_bv, asI_I, pAdd_I, pSub_I, pCmp_I, pNeg_I, List.map_cons, List.map_nil, List.length_cons, List.length_nil, List.replicate_succ, List.replicate_zero, List.cons_append, List.nil_append, List.getElem?_cons_zero, List.getElem?_cons_succ, List.getD_cons_zero, List.getD_cons_succ, List.set_cons_zero, List.set_cons_succ, Nat.reduceAdd, Nat.reduceSub, Nat.reduceLT, Nat.reduceLeDiff, Nat.zero_lt_succ, if_true, if_false, Bool.false_eq_true, decide_true, decide_false, Bool.not_true, Bool.not_false, Bool.true_and, Bool.and_true, reduceIte, reduceCtorEq, Bool.true_eq_false, Bool.false_eq_true, not_true_eq_false, not_false_eq_true, fits0, fits1, fits2, fits3, fits4, pLen_B, pLen_Cs, pLen_C, pGet_C0, pGet_C1, pGet_K0, pGet_K1, pGet_Cs0, pEq_I, pEq_C, pEq_Cs, pEq_bl, pIn_Cs, pIn_D, items_Cs, items_B, items_R]
    rw [rng1_I _ (by omega) (by omega), Int.toNat_natCast]
  · rw [List.length_range]; unfold sizeLine; omega
  · intro i hi
    rw [List.mem_range] at hi
    refine ⟨_, rfl, rfl, ?_⟩
    simp only [fnSem, rho0, outW_rt, outW_nx, gSeq, Vd.gNil, gDo, gRet, gSet, gOwn, gIf, gAsg, gFrz, gKill, gThenKill, gThenFrz, gApp, gExt, gEx, nLst, fOt, otw, f1, f2, fT, fAnd, fOr, fNot, fAndV, fOrV, fNotV, fIf, fCal, aNil, aCons, fTup, fSl, oNo, oSo, fChain, fV, fO, fC, iVal, iL, setF, setO, nG, tupG, consG, nilG, killAt, frzAt, fzS, nDisp1T, fS1, cYes, unlG, bindok, bindex, bindno, noEx_ok, tb_bv, asDat_dat, asDat_wC, asDat_wI, asDat_bv, asDat_wR, asDat_wS, asDat_wN, pds_nil, pds_dat, pds_wI, pds_wC, pds_wR, pds_bv, asI_I, pAdd_I, pSub_I, pCmp_I, pNeg_I, List.map_cons, List.map_nil, List.length_cons, List.length_nil, List.replicate_succ, List.replicate_zero, List.cons_append, List.nil_append, List.getElem?_cons_zero, List.getElem?_cons_succ, List.getD_cons_zero, List.getD_cons_succ, List.set_cons_zero, List.set_cons_succ, Nat.reduceAdd, Nat.reduceSub, Nat.reduceLT, Nat.reduceLeDiff, Nat.zero_lt_succ, if_true, if_false, Bool.false_eq_true, decide_true, decide_false, Bool.not_true, Bool.not_false, Bool.true_and, Bool.and_true, reduceIte, reduceCtorEq, Bool.true_eq_false, Bool.false_eq_true, not_true_eq_false, not_false_eq_true, fits0, fits1, fits2, fits3, fits4, pLen_B, pLen_Cs, pLen_C, pGet_C0, pGet_C1, pGet_K0, pGet_K1, pGet_Cs0, pEq_I, pEq_C, pEq_Cs, pEq_bl, pIn_Cs, pIn_D, items_Cs, items_B, items_R]
    rw [nLc_all (fun j : Nat => wI (j : Nat)) (List.range (wd b)) (fun j : Nat => .int (numAt (parted b k) ((i : Int), (j : Int)) : Nat))]
    · simp only [fnSem, rho0, outW_rt, outW_nx, gSeq, Vd.gNil, gDo, gRet, gSet, gOwn, gIf, gAsg, gFrz, gKill, gThenKill, gThenFrz, gApp, gExt, gEx, nLst, fOt, otw, f1, f2, fT, fAnd, fOr, fNot, fAndV, fOrV, fNotV, fIf, fCal, aNil, aCons, fTup, fSl, oNo, oSo, fChain, fV, fO, fC, iVal, iL, setF, setO, nG, tupG, consG, nilG, killAt, frzAt, fzS, nDisp1T, fS1, cYes, unlG, bindok, bindex, bindno, noEx_ok, tb_bv, asDat_dat, asDat_wC, asDat_wI, asDat_bv, asDat_wR, asDat_wS, asDat_wN, pds_nil, pds_dat, pds_wI, pds_wC, pds_wR, pds_bv, asI_I, pAdd_I, pSub_I, pCmp_I, pNeg_I, List.map_cons, List.map_nil, List.length_cons, List.length_nil, List.replicate_succ, List.replicate_zero, List.cons_append, List.nil_append, List.getElem?_cons_zero, List.getElem?_cons_succ, List.getD_cons_zero, List.getD_cons_succ, List.set_cons_zero, List.set_cons_succ, Nat.reduceAdd, Nat.reduceSub, Nat.reduceLT, Nat.reduceLeDiff, Nat.zero_lt_succ, if_true, if_false, Bool.false_eq_true, decide_true, decide_false, Bool.not_true, Bool.not_false, Bool.true_and, Bool.and_true, reduceIte, reduceCtorEq, Bool.true_eq_false, Bool.false_eq_true, not_true_eq_false, not_false_eq_true, fits0, fits1, fits2, fits3, fits4, pLen_B, pLen_Cs, pLen_C, pGet_C0, pGet_C1, pGet_K0, pGet_K1, pGet_Cs0, pEq_I, pEq_C, pEq_Cs, pEq_bl, pIn_Cs, pIn_D, items_Cs, items_B, items_R]
    · simp only [fnSem, rho0, outW_rt, outW_nx, gSeq, Vd.gNil, gDo, gRet, gSet, gOwn, gIf, gAsg, gFrz, gKill, gThenKill, gThenFrz, gApp, gExt, gEx, nLst, fOt, otw, f1, f2, fT, fAnd, fOr, fNot, fAndV, fOrV, fNotV, fIf, fCal, aNil, aCons, fTup, fSl, oNo, oSo, fChain, fV, fO, fC, iVal, iL, setF, setO, nG, tupG, consG, nilG, killAt, frzAt, fzS, nDisp1T, fS1, cYes, unlG, bindok, bindex, bindno, noEx_ok, tb_bv, asDat_dat, asDat_wC, asDat_wI, asDat_bv, asDat_wR, asDat_wS, asDat_wN, pds_nil, pds_dat, pds_wI, pds_wC, pds_wR, pds_bv, asI_I, pAdd_I, pSub_I, pCmp_I, pNeg_I, List.map_cons, List.map_nil, List.length_cons, List.length_nil, List.replicate_succ, List.replicate_zero, List.cons_append, List.nil_append, List.getElem?_cons_zero, List.getElem?_cons_succ, List.getD_cons_zero, List.getD_cons_succ, List.set_cons_zero, List.set_cons_succ, Nat.reduceAdd, Nat.reduceSub, Nat.reduceLT, Nat.reduceLeDiff, Nat.zero_lt_succ, if_true, if_false, Bool.false_eq_true, decide_true, decide_false, Bool.not_true, Bool.not_false, Bool.true_and, Bool.and_true, reduceIte, reduceCtorEq, Bool.true_eq_false, Bool.false_eq_true, not_true_eq_false, not_false_eq_true, fits0, fits1, fits2, fits3, fits4, pLen_B, pLen_Cs, pLen_C, pGet_C0, pGet_C1, pGet_K0, pGet_K1, pGet_Cs0, pEq_I, pEq_C, pEq_Cs, pEq_bl, pIn_Cs, pIn_D, items_Cs, items_B, items_R, g.get0, g.len0]
      rw [rng1_I _ (by omega) (by omega), Int.toNat_natCast]
    · rw [List.length_range]; unfold sizeLine; omega
    · intro j hj
      rw [List.mem_range] at hj
      refine ⟨_, rfl, rfl, ?_⟩
      have hin : ins b ((i : Int), (j : Int)) = true := ins_iff.mpr ⟨by simp, by simp; omega, by simp, by simp; omega⟩
      have hk2 : (((i : Int), (j : Int)) : C2) ∈ (placesL (parted b k)).map (·.1) := by
        rw [placesL_keys]
        obtain ⟨p, hp, hc⟩ := parted_all (k := k) g hin
        exact List.mem_flatten.mpr ⟨p, hp, hc⟩
      obtain ⟨n, hn, _⟩ := lkC_some hk2
      have e1 : W.dat (.tuple [.int (i : Int), .int (j : Int)]) = wC ((i : Int), (j : Int)) := rfl
      have e2 := pGet_D eN (placesL (parted b k)) _ hn
      have e3 : numAt (parted b k) ((i : Int), (j : Int)) = n := by unfold numAt; rw [hn]; rfl
      simp only [fnSem, rho0, outW_rt, outW_nx, gSeq, Vd.gNil, gDo, gRet, gSet, gOwn, gIf, gAsg, gFrz, gKill, gThenKill, gThenFrz, gApp, gExt, gEx, nLst, fOt, otw, f1, f2, fT, fAnd, fOr, fNot, fAndV, fOrV, fNotV, fIf, fCal, aNil, aCons, fTup, fSl, oNo, oSo, fChain, fV, fO, fC, iVal, iL, setF, setO, nG, tupG, consG, nilG, killAt, frzAt, fzS, nDisp1T, fS1, cYes, unlG, bindok, bindex, bindno, noEx_ok, tb_bv, asDat_dat, asDat_wC, asDat_wI, asDat_bv, asDat_wR, asDat_wS, asDat_wN, pds_nil, pds_dat, pds_wI, pds_wC, pds_wR, pds_bv, asI_I, pAdd_I, pSub_I, pCmp_I, pNeg_I, List.map_cons, List.map_nil, List.length_cons, List.length_nil, List.replicate_succ, List.replicate_zero, List.cons_append, List.nil_append, List.getElem?_cons_zero, List.getElem?_cons_succ, List.getD_cons_zero, List.getD_cons_succ, List.set_cons_zero, List.set_cons_succ, Nat.reduceAdd, Nat.reduceSub, Nat.reduceLT, Nat.reduceLeDiff, Nat.zero_lt_succ, if_true, if_false, Bool.false_eq_true, decide_true, decide_false, Bool.not_true, Bool.not_false, Bool.true_and, Bool.and_true, reduceIte, reduceCtorEq, Bool.true_eq_false, Bool.false_eq_true, not_true_eq_false, not_false_eq_true, fits0, fits1, fits2, fits3, fits4, pLen_B, pLen_Cs, pLen_C, pGet_C0, pGet_C1, pGet_K0, pGet_K1, pGet_Cs0, pEq_I, pEq_C, pEq_Cs, pEq_bl, pIn_Cs, pIn_D, items_Cs, items_B, items_R, e1, e2, e3]
      rfl
end Cp


/-! M1: first cells, representatives. -/
namespace Cp

open L2 PyProof.Rows PySem PySem.Spec Vd Bf

section

variable {C D : Type} [DecidableEq C] [DecidableEq D]

structure Reps (R : C → C → Prop) (l r : List C) : Prop where
  nd : r.Nodup
  sub : ∀ c ∈ r, c ∈ l
  all : ∀ c ∈ l, ∃ d ∈ r, R c d
  one : ∀ c ∈ r, ∀ d ∈ r, R c d → c = d
structure Eqv (R : C → C → Prop) (l : List C) : Prop where
  symm : ∀ c ∈ l, ∀ d ∈ l, R c d → R d c
  trans : ∀ c ∈ l, ∀ d ∈ l, ∀ e ∈ l, R c d → R d e → R c e
theorem nodup_map_on {f : C → D} : ∀ {r : List C}, r.Nodup → (∀ c ∈ r, ∀ d ∈ r, f c = f d → c = d) → (r.map f).Nodup
  | [], _, _ => List.nodup_nil
  | a :: r, h, i => by
    rw [List.nodup_cons] at h
    rw [List.map_cons, List.nodup_cons]
    refine ⟨fun q => ?_, nodup_map_on h.2 fun c hc d hd => i c (List.mem_cons_of_mem _ hc) d (List.mem_cons_of_mem _ hd)⟩
    obtain ⟨c, hc, e⟩ := List.mem_map.mp q
    have := i c (List.mem_cons_of_mem _ hc) a List.mem_cons_self e
    exact h.1 (this ▸ hc)
theorem reps_pick {R' : D → D → Prop} {l : List C} {l' r' : List D} (h' : Reps R' l' r') (φ : C → D) (hm : ∀ c ∈ l, φ c ∈ l') : ∃ ρ : C → D, ∀ c ∈ l, ρ c ∈ r' ∧ R' (φ c) (ρ c) := by
  have : ∀ c, ∃ d, c ∈ l → d ∈ r' ∧ R' (φ c) d := fun c => by
    by_cases q : c ∈ l
    · obtain ⟨d, h1, h2⟩ := h'.all _ (hm c q)
      exact ⟨d, fun _ => ⟨h1, h2⟩⟩
    · exact ⟨φ c, fun z => (q z).elim⟩
  exact ⟨fun c => Classical.choose (this c), fun c hc => Classical.choose_spec (this c) hc⟩
/-- the coarser relation has no more -/
theorem reps_le {R : C → C → Prop} {R' : D → D → Prop} {l r : List C} {l' r' : List D} (h : Reps R l r) (h' : Reps R' l' r') (e' : Eqv R' l') (φ : C → D) (hm : ∀ c ∈ l, φ c ∈ l')
    (sm : ∀ c ∈ l, ∀ d ∈ l, R c d → R' (φ c) (φ d)) (sj : ∀ c' ∈ l', ∃ c ∈ l, R' (φ c) c') : r'.length ≤ r.length := by
  obtain ⟨ρ, hρ⟩ := reps_pick (l := l) h' φ hm
  have := nodup_le h'.nd (m := r.map ρ) fun c' hc' => by
    obtain ⟨c, hc, h1⟩ := sj c' (h'.sub c' hc')
    obtain ⟨d, hd, h2⟩ := h.all c hc
    have hdl := h.sub d hd
    have h3 := hρ d hdl
    refine List.mem_map.mpr ⟨d, hd, ?_⟩
    have m1 := hm c hc
    have m2 := hm d hdl
    have m3 := h'.sub _ h3.1
    have m4 := h'.sub _ hc'
    have q1 := e'.symm _ m1 _ m2 (sm c hc d hdl h2)
    have q2 := e'.trans _ m2 _ m1 _ m4 q1 h1
    have q3 := e'.trans _ m3 _ m2 _ m4 (e'.symm _ m2 _ m3 h3.2) q2
    exact h'.one _ h3.1 _ hc' q3
  rwa [List.length_map] at this
theorem reps_perm {R : C → C → Prop} {R' : D → D → Prop} {l r : List C} {l' r' : List D} (h : Reps R l r) (h' : Reps R' l' r') (e' : Eqv R' l') (φ : C → D) (hm : ∀ c ∈ l, φ c ∈ l')
    (sm : ∀ c ∈ l, ∀ d ∈ l, R c d → R' (φ c) (φ d)) (sb : ∀ c ∈ l, ∀ d ∈ l, R' (φ c) (φ d) → R c d) (sj : ∀ c' ∈ l', ∃ c ∈ l, R' (φ c) c') :
    ∃ ρ : C → D, (r.map ρ).Perm r' ∧ ∀ c ∈ r, ρ c ∈ r' ∧ R' (φ c) (ρ c) := by
  obtain ⟨ρ, hρ⟩ := reps_pick (l := l) h' φ hm
  refine ⟨ρ, ?_, fun c hc => hρ c (h.sub c hc)⟩
  have nd : (r.map ρ).Nodup := nodup_map_on h.nd fun c hc d hd e => by
    have hcl := h.sub c hc
    have hdl := h.sub d hd
    have h1 := hρ c hcl
    have h2 := hρ d hdl
    refine h.one c hc d hd (sb c hcl d hdl ?_)
    rw [e] at h1
    exact e'.trans _ (hm c hcl) _ (h'.sub _ h2.1) _ (hm d hdl) h1.2 (e'.symm _ (hm d hdl) _ (h'.sub _ h2.1) h2.2)
  refine (List.perm_ext_iff_of_nodup nd h'.nd).mpr fun c' => ⟨fun hc' => ?_, fun hc' => ?_⟩
  · obtain ⟨c, hc, rfl⟩ := List.mem_map.mp hc'
    exact (hρ c (h.sub c hc)).1
  · obtain ⟨c, hc, h1⟩ := sj c' (h'.sub c' hc')
    obtain ⟨d, hd, h2⟩ := h.all c hc
    have hdl := h.sub d hd
    have h3 := hρ d hdl
    refine List.mem_map.mpr ⟨d, hd, ?_⟩
    have m1 := hm c hc
    have m2 := hm d hdl
    have m3 := h'.sub _ h3.1
    have m4 := h'.sub _ hc'
    have q1 := e'.symm _ m1 _ m2 (sm c hc d hdl h2)
    have q2 := e'.trans _ m2 _ m1 _ m4 q1 h1
    have q3 := e'.trans _ m3 _ m2 _ m4 (e'.symm _ m2 _ m3 h3.2) q2
    exact h'.one _ h3.1 _ hc' q3
theorem reps_len {R : C → C → Prop} {l r r' : List C} (h : Reps R l r) (h' : Reps R l r') (e : Eqv R l) (rf : ∀ c ∈ l, R c c) : r.length = r'.length := by
  refine Nat.le_antisymm (reps_le h' h e id (fun c h => h) (fun c _ d _ h => h) fun c hc => ⟨c, hc, rf c hc⟩) (reps_le h h' e id (fun c h => h) (fun c _ d _ h => h) fun c hc => ⟨c, hc, rf c hc⟩)
end
/-! ### the order of cells -/
def ltC (a b : C2) : Prop := a.1 < b.1 ∨ (a.1 = b.1 ∧ a.2 < b.2)
theorem allC_lt (b : Bd) : (allC b).Pairwise ltC := by
  unfold allC
  rw [List.pairwise_flatMap]
  refine ⟨fun i _ => ?_, ?_⟩
  · unfold rowC
    rw [List.pairwise_map]
    refine List.pairwise_lt_range.imp fun {a c} h => .inr ⟨rfl, ?_⟩
    show ((a : Nat) : Int) < ((c : Nat) : Int)
    omega
  · refine List.pairwise_lt_range.imp fun {a c} h => ?_
    intro x hx y hy
    unfold rowC at hx hy
    obtain ⟨_, _, rfl⟩ := List.mem_map.mp hx
    obtain ⟨_, _, rfl⟩ := List.mem_map.mp hy
    refine .inl ?_
    show ((a : Nat) : Int) < ((c : Nat) : Int)
    omega
theorem ltC.not_le {a b : C2} (h : ltC a b) : ¬ leC b a = true := by
  unfold leC; simp only [decide_eq_true_eq]; rcases h with h | h <;> omega
theorem ltC.le {a b : C2} (h : ltC a b) : leC a b = true := by
  unfold leC; simp only [decide_eq_true_eq]; rcases h with h | h <;> omega
theorem ltC.irr {a : C2} (h : ltC a a) : False := by rcases h with h | h <;> omega
theorem ltC.ne {a b : C2} (h : ltC a b) : a ≠ b := fun e => by subst e; exact h.irr
theorem le_lt {a b : C2} (h : leC a b = true) (n : a ≠ b) : ltC a b := by
  unfold leC at h; simp only [decide_eq_true_eq] at h
  rcases h with h | ⟨h1, h2⟩
  · exact .inl h
  · refine .inr ⟨h1, ?_⟩
    rcases Int.lt_or_eq_of_le h2 with q | q
    · exact q
    · exact (n (Prod.ext h1 q)).elim
theorem allC_nodup (b : Bd) : (allC b).Nodup := (allC_lt b).imp fun h => h.ne
section

variable {b : Bd} {k : Int}

theorem patch_sorted (b : Bd) (k : Int) (c : C2) : (patch b k c).Pairwise fun a d => leC a d = true := by
  unfold patch srtC
  rw [mergeC]; exact mergeC_sorted _
theorem sorted_head {l : List C2} (h : l.Pairwise fun a d => leC a d = true) {m : C2} (hm : l.head? = some m) : ∀ x ∈ l, leC m x = true := by
  cases l with
  | nil => simp at hm
  | cons a r =>
    simp at hm
    subst hm
    rw [List.pairwise_cons] at h
    intro x hx
    rcases List.mem_cons.mp hx with rfl | hx
    · unfold leC; simp
    · exact h.1 x hx
def isF (b : Bd) (k : Int) (c : C2) : Prop := (patch b k c).head? = some c
noncomputable instance (b : Bd) (k : Int) (c : C2) : Decidable (isF b k c) := Classical.propDecidable _
noncomputable def firsts (b : Bd) (k : Int) : List C2 := (allC b).filter fun c => decide (isF b k c)
structure FoldOk (b : Bd) (k : Int) (pre : List C2) (s : List C2 × List (List C2)) : Prop where
  snd : s.2 = (pre.filter fun c => decide (isF b k c)).map (patch b k)
  fst : ∀ x, x ∈ s.1 ↔ ∃ d ∈ pre, Sm b k d x
theorem isF_iff (g : Good b) {pre post : List C2} {c : C2} (e : allC b = pre ++ c :: post) : isF b k c ↔ ¬ ∃ d ∈ pre, Sm b k d c := by
  have lt := allC_lt b
  rw [e, List.pairwise_append, List.pairwise_cons] at lt
  have hc : ins b c = true := allC_mem.mp (by rw [e]; simp)
  have hp : ∀ d ∈ pre, ins b d = true := fun d hd => allC_mem.mp (by rw [e]; simp [hd])
  constructor
  · rintro h ⟨d, hd, sm⟩
    have h1 := sorted_head (patch_sorted b k c) h d (patch_mem.mpr (Sm.symm g (hp d hd) sm))
    exact (lt.2.2 d hd c List.mem_cons_self).not_le h1
  · intro h
    have hcm : c ∈ patch b k c := patch_mem.mpr (Sm.refl g hc)
    cases z : (patch b k c).head? with
    | none => rw [List.head?_eq_none_iff] at z; rw [z] at hcm; simp at hcm
    | some m =>
      unfold isF
      rw [z]
      have hm : m ∈ patch b k c := List.mem_of_mem_head? z
      have h1 := sorted_head (patch_sorted b k c) z c hcm
      have sm := patch_mem.mp hm
      have hmi := Sm.ins g hc sm
      have hma : m ∈ pre ++ c :: post := e ▸ allC_mem.mpr hmi
      rcases List.mem_append.mp hma with q | q
      · exact (h ⟨m, q, Sm.symm g hc sm⟩).elim
      · rcases List.mem_cons.mp q with rfl | q
        · rfl
        · exact ((lt.2.1.1 m q).not_le h1).elim
theorem fold_ok (g : Good b) : ∀ (l pre : List C2) (s : List C2 × List (List C2)), allC b = pre ++ l → FoldOk b k pre s → FoldOk b k (pre ++ l) (l.foldl (prStep b k) s)
  | [], pre, s, e, I => by simpa using I
  | c :: l, pre, s, e, I => by
    have e2 : allC b = (pre ++ [c]) ++ l := by rw [e]; simp
    have hc : ins b c = true := allC_mem.mp (by rw [e]; simp)
    have hp : ∀ d ∈ pre, ins b d = true := fun d hd => allC_mem.mp (by rw [e]; simp [hd])
    have hiff := isF_iff (k := k) g e
    have I2 : FoldOk b k (pre ++ [c]) (prStep b k s c) := by
      unfold prStep
      by_cases q : c ∈ s.1
      · rw [if_pos q]
        have q2 := (I.fst c).mp q
        have nf : ¬ isF b k c := fun h => hiff.mp h q2
        refine ⟨by rw [List.filter_append, I.snd]; simp [nf], fun x => ?_⟩
        rw [I.fst x]
        constructor
        · rintro ⟨d, hd, sm⟩; exact ⟨d, by simp [hd], sm⟩
        · rintro ⟨d, hd, sm⟩
          rcases List.mem_append.mp hd with hd | hd
          · exact ⟨d, hd, sm⟩
          · simp at hd; subst hd
            obtain ⟨d0, h0, sm0⟩ := q2
            exact ⟨d0, h0, Sm.trans g (hp d0 h0) sm0 sm⟩
      · rw [if_neg q]
        have q2 : ¬ ∃ d ∈ pre, Sm b k d c := fun z => q ((I.fst c).mpr z)
        have yf : isF b k c := hiff.mpr q2
        refine ⟨by simp [List.filter_append, I.snd, yf], fun x => ?_⟩
        show x ∈ s.1 ++ patch b k c ↔ _
        rw [List.mem_append, I.fst x, patch_mem]
        constructor
        · rintro (⟨d, hd, sm⟩ | sm)
          · exact ⟨d, by simp [hd], sm⟩
          · exact ⟨c, by simp, sm⟩
        · rintro ⟨d, hd, sm⟩
          rcases List.mem_append.mp hd with hd | hd
          · exact .inl ⟨d, hd, sm⟩
          · simp at hd; subst hd; exact .inr sm
    have := fold_ok g l (pre ++ [c]) _ e2 I2
    simpa using this
theorem parted_form (g : Good b) : parted b k = (firsts b k).map (patch b k) := (fold_ok g (allC b) [] ([], []) (by simp) ⟨rfl, fun x => by simp⟩).snd
theorem firsts_mem {c : C2} : c ∈ firsts b k ↔ ins b c = true ∧ isF b k c := by
  unfold firsts; rw [List.mem_filter, allC_mem]; simp
theorem sm_eqv (g : Good b) : Eqv (Sm b k) (allC b) := ⟨fun c hc d _ h => Sm.symm g (allC_mem.mp hc) h, fun c hc d _ e _ h i => Sm.trans g (allC_mem.mp hc) h i⟩
theorem patch_eq (g : Good b) {c d : C2} (hc : Vd.ins b c = true) (sm : Sm b k c d) : patch b k c = patch b k d := by
  have hd := Sm.ins g hc sm
  unfold patch
  refine srtC_perm ((List.perm_ext_iff_of_nodup (spread_fin g k hc).nd (spread_fin g k hd).nd).mpr fun x => ⟨fun h => Sm.trans g hd (Sm.symm g hc sm) h, fun h => Sm.trans g hc sm h⟩)
theorem firsts_reps (g : Good b) : Reps (Sm b k) (allC b) (firsts b k) where
  nd := (allC_nodup b).filter _
  sub := fun c hc => (List.mem_filter.mp hc).1
  all := fun c hc => by
    have hi := allC_mem.mp hc
    have hcm : c ∈ patch b k c := patch_mem.mpr (Sm.refl g hi)
    cases z : (patch b k c).head? with
    | none => rw [List.head?_eq_none_iff] at z; rw [z] at hcm; simp at hcm
    | some m =>
      have sm := patch_mem.mp (List.mem_of_mem_head? z)
      refine ⟨m, firsts_mem.mpr ⟨Sm.ins g hi sm, ?_⟩, sm⟩
      unfold isF
      rw [← patch_eq g hi sm, z]
  one := fun c hc d hd sm => by
    obtain ⟨c1, c2⟩ := firsts_mem.mp hc
    obtain ⟨d1, d2⟩ := firsts_mem.mp hd
    unfold isF at c2 d2
    rw [patch_eq g c1 sm, d2] at c2
    exact (Option.some.inj c2).symm
theorem firsts_lt (b : Bd) (k : Int) : (firsts b k).Pairwise ltC := (allC_lt b).filter _
theorem parted_len (g : Good b) : (parted b k).length = (firsts b k).length := by rw [parted_form g, List.length_map]
theorem reps_count (g : Good b) {r : List C2} (h : Reps (Sm b k) (allC b) r) : (parted b k).length = r.length := by
  rw [parted_len g]
  exact reps_len (firsts_reps g) h (sm_eqv g) fun c hc => Sm.refl g (allC_mem.mp hc)
/-! ### carrying patches over -/
theorem Sm.ltr_eq (g : Good b) {c d : C2} (hc : Vd.ins b c = true) (sm : Sm b k c d) : Vd.ltr b d = Vd.ltr b c := by
  obtain ⟨j, hj⟩ := ((spread_fin g k hc).iff d).mp sm
  cases hj with
  | zero => rfl
  | succ _ _ h3 => exact of_decide_eq_true h3
theorem Sm.step (g : Good b) {c d e : C2} (hc : Vd.ins b c = true) (sm : Sm b k c d) (hn : e ∈ near b d k) (hl : Vd.ltr b e = Vd.ltr b d) : Sm b k c e := key_closed g hc sm hn hl
theorem Sm.carry (g : Good b) {b' : Bd} (g' : Good b') {k' : Int} {φ : C2 → C2} {P : C2 → Prop} (hP : ∀ x y, P x → y ∈ near b x k → Vd.ltr b y = Vd.ltr b x → P y) (hi : ∀ x, P x → Vd.ins b' (φ x) = true)
    (hs : ∀ x y, P x → P y → y ∈ near b x k → Vd.ltr b y = Vd.ltr b x → φ y ∈ near b' (φ x) k' ∧ Vd.ltr b' (φ y) = Vd.ltr b' (φ x)) {c d : C2} (hc : Vd.ins b c = true) (hp : P c) (sm : Sm b k c d) : P d ∧ Sm b' k' (φ c) (φ d) := by
  obtain ⟨j, hj⟩ := ((spread_fin g k hc).iff d).mp sm
  clear sm
  induction hj with
  | zero => exact ⟨hp, Sm.refl g' (hi c hp)⟩
  | @succ n x y h1 h2 h3 ih =>
    have smx : Sm b k c x := ((spread_fin g k hc).iff x).mpr ⟨n, h1⟩
    have e1 := smx.ltr_eq g hc
    have e2 : Vd.ltr b y = Vd.ltr b c := of_decide_eq_true h3
    have hpy := hP x y ih.1 h2 (by rw [e2, e1])
    have hq := hs x y ih.1 hpy h2 (by rw [e2, e1])
    exact ⟨hpy, ih.2.step g' (hi c hp) hq.1 hq.2⟩
theorem Sm.eight (g : Good b) {c d : C2} (hc : Vd.ins b c = true) (sm : Sm b k c d) : Sm b 8 c d :=
  (Sm.carry (P := fun x => Vd.ins b x = true) (φ := id) (k' := 8) g g (fun x y _ h _ => near_ins h) (fun x h => h) (fun x y _ _ h1 h2 => ⟨near_sub h1, h2⟩) hc hc sm).2
theorem count_eight (g : Good b) : (parted b 8).length ≤ (parted b 4).length := by
  rw [parted_len g, parted_len g]
  exact reps_le (firsts_reps g) (firsts_reps g) (sm_eqv g) id (fun c h => h) (fun c hc d _ h => Sm.eight g (allC_mem.mp hc) h) fun c hc => ⟨c, hc, Sm.refl g (allC_mem.mp hc)⟩
/-- a board of one letter is one patch -/
theorem one_letter (g : Good b) (hk : k = 4 ∨ k = 8) {z : Nat} (h : ∀ c, Vd.ins b c = true → Vd.ltr b c = z) : ∀ c, Vd.ins b c = true → Sm b k (0, 0) c := by
  have h0 : Vd.ins b (0, 0) = true := ins_iff.mpr ⟨by simp, by have := g.h1; simp; omega, by simp, by have := g.w1; simp; omega⟩
  have key : ∀ (n : Nat) (c : C2), (c.1 + c.2).toNat = n → Vd.ins b c = true → Sm b k (0, 0) c := by
    intro n
    induction n with
    | zero =>
      intro c hn hc
      obtain ⟨h1, h2, h3, h4⟩ := ins_iff.mp hc
      have : c = (0, 0) := Prod.ext (by simp; omega) (by simp; omega)
      rw [this]; exact Sm.refl g h0
    | succ n ih =>
      intro c hn hc
      obtain ⟨h1, h2, h3, h4⟩ := ins_iff.mp hc
      by_cases q : 0 < c.1
      · have hi : Vd.ins b (c.1 - 1, c.2) = true := ins_iff.mpr ⟨by simp; omega, by simp; omega, by simpa using h3, by simpa using h4⟩
        refine (ih (c.1 - 1, c.2) (by simp; omega) hi).step g h0 (near_mem.mpr ⟨hc, (1, 0), ?_, Prod.ext (by simp) (by simp)⟩) (by rw [h _ hc, h _ hi])
        rcases hk with rfl | rfl <;> decide
      · have hi : Vd.ins b (c.1, c.2 - 1) = true := ins_iff.mpr ⟨by simpa using h1, by simpa using h2, by simp; omega, by simp; omega⟩
        refine (ih (c.1, c.2 - 1) (by simp; omega) hi).step g h0 (near_mem.mpr ⟨hc, (0, 1), ?_, Prod.ext (by simp) (by simp)⟩) (by rw [h _ hc, h _ hi])
        rcases hk with rfl | rfl <;> decide
  exact fun c hc => key _ c rfl hc
theorem count_one (g : Good b) (hk : k = 4 ∨ k = 8) {z : Nat} (h : ∀ c, Vd.ins b c = true → Vd.ltr b c = z) : (parted b k).length = 1 := by
  have h0 : Vd.ins b (0, 0) = true := ins_iff.mpr ⟨by simp, by have := g.h1; simp; omega, by simp, by have := g.w1; simp; omega⟩
  have ho := one_letter g hk h
  exact reps_count g (r := [(0, 0)]) ⟨by simp, fun c hc => by simp at hc; subst hc; exact allC_mem.mpr h0, fun c hc => ⟨(0, 0), by simp, Sm.symm g h0 (ho c (allC_mem.mp hc))⟩, fun c hc d hd _ => by simp at hc hd; rw [hc, hd]⟩
end

end Cp



/-! R1: letters put. -/
namespace Cp

open L2 PyProof.Rows PySem PySem.Spec Vd Bf

def rD (r : List Nat) : List Pd := r.map fun c => pR [c]
def setB (b : Bd) (c : C2) (z : Nat) : Bd := b.set c.1.toNat ((b.getD c.1.toNat []).set c.2.toNat z)
def putB (b : Bd) (l : List C2) (z : Nat) : Bd := l.foldl (fun b c => setB b c z) b
theorem lcSL_all {α : Type} (enc : α → W) (out : α → List Pd) {vs : List Nat} {t : W → Rho → R Rho} {c : Rho → R Bool} {f : Rho → R OT} (ρ : Rho) : ∀ (l : List α), (∀ a ∈ l, ∃ ρ1, t (enc a) (killAt vs ρ) = .ok ρ1 ∧ c ρ1 = .ok true ∧ f ρ1 = .ok (.L (out a))) →
    lcSL vs t c f (l.map enc) ρ = .ok (l.map out)
  | [], _ => rfl
  | a :: l, h => by
    obtain ⟨ρ1, h1, h2, h3⟩ := h a List.mem_cons_self
    have ih := lcSL_all enc out ρ l fun b hb => h b (List.mem_cons_of_mem _ hb)
    simp only [List.map_cons, lcSL, h1, noEx_ok, bindok, h2, if_true, h3, ih]
theorem nLcL_all {α : Type} {i : Rho → R (List W)} {vs : List Nat} {t : W → Rho → R Rho} {c : Rho → R Bool} {f : Rho → R OT} {ρ : Rho} (enc : α → W) (l : List α) (out : α → List Pd) (hi : i ρ = .ok (l.map enc)) (hl : l.length ≤ sizeLine)
    (h : ∀ a ∈ l, ∃ ρ1, t (enc a) (killAt vs ρ) = .ok ρ1 ∧ c ρ1 = .ok true ∧ f ρ1 = .ok (.L (out a))) : nLcL i vs t c f ρ = .ok (.LL (l.map out)) := by
  unfold nLcL; rw [hi, bindok, lcSL_all enc out ρ l h, noEx_ok, bindok, if_pos]
  unfold fits; rw [List.length_map]; exact hl
theorem setB_len (b : Bd) (c : C2) (z : Nat) : (setB b c z).length = b.length := by unfold setB; rw [List.length_set]
theorem setB_row {b : Bd} (g : Good b) {c : C2} (h : ins b c = true) (z : Nat) : ∀ r ∈ setB b c z, r.length = wd b := fun r hr => by
  obtain ⟨h1, h2, h3, h4⟩ := ins_iff.mp h
  unfold setB at hr
  rcases List.mem_or_eq_of_mem_set hr with q | q
  · exact g.row r q
  · rw [q, List.length_set]; exact g.rowLen h1 h2
theorem setB_wd {b : Bd} (g : Good b) {c : C2} (h : ins b c = true) (z : Nat) : wd (setB b c z) = wd b := by
  have h0 : 0 < (setB b c z).length := by rw [setB_len]; have := g.h1; omega
  unfold wd
  rw [List.getD_eq_getElem?_getD, List.getElem?_eq_getElem h0]
  exact setB_row g h z _ (List.getElem_mem _)
theorem setB_good {b : Bd} (g : Good b) {c : C2} (h : ins b c = true) {z : Nat} (hz : z ∈ [97, 98, 99, 100, 101, 102]) : Good (setB b c z) := by
  obtain ⟨h1, h2, h3, h4⟩ := ins_iff.mp h
  have hw := setB_wd g h z
  refine ⟨by rw [setB_len]; exact g.h1, by rw [setB_len]; exact g.h8, by rw [hw]; exact g.w1, by rw [hw]; exact g.w8, fun r hr => by rw [hw]; exact setB_row g h z r hr, fun r hr x hx => ?_⟩
  unfold setB at hr
  rcases List.mem_or_eq_of_mem_set hr with q | q
  · exact g.lets r q x hx
  · rw [q] at hx
    rcases List.mem_or_eq_of_mem_set hx with q | q
    · exact g.lets _ (g.getRow h1 h2) x q
    · rw [q]; exact hz
theorem setB_ins {b : Bd} (g : Good b) {c : C2} (h : ins b c = true) (z : Nat) : Vd.ins (setB b c z) = Vd.ins b := by
  funext d; unfold Vd.ins; rw [setB_len, setB_wd g h]
theorem setB_ltr {b : Bd} (g : Good b) {c d : C2} (h : ins b c = true) (hd : ins b d = true) (z : Nat) : Vd.ltr (setB b c z) d = if d = c then z else Vd.ltr b d := by
  obtain ⟨h1, h2, h3, h4⟩ := ins_iff.mp h
  obtain ⟨d1, d2, d3, d4⟩ := ins_iff.mp hd
  have hr := g.rowLen h1 h2
  unfold Vd.ltr setB
  by_cases e1 : c.1 = d.1
  · rw [← e1]
    rw [List.getD_eq_getElem?_getD (l := b.set _ _), List.getElem?_set_self (by omega), Option.getD_some]
    by_cases e2 : c.2 = d.2
    · rw [if_pos (Prod.ext e1.symm e2.symm), ← e2]
      rw [List.getD_eq_getElem?_getD, List.getElem?_set_self (by omega)]; rfl
    · rw [if_neg (fun q => e2 (by rw [q])), List.getD_eq_getElem?_getD, List.getElem?_set_ne (by omega), ← List.getD_eq_getElem?_getD]
  · rw [if_neg (fun q => e1 (by rw [q]))]
    rw [List.getD_eq_getElem?_getD (l := b.set _ _), List.getElem?_set_ne (by omega), ← List.getD_eq_getElem?_getD]
theorem gPut2_B {i : Nat} {kf kg vf : Rho → R W} {ρ : Rho} {b : Bd} {c : C2} {z : Nat} (g : ∀ r ∈ b, r.length = wd b) (h : ρ[i]? = some (.ow (.LL (b.map rD)))) (hk : kf ρ = .ok (wI c.1)) (hg : kg ρ = .ok (wI c.2)) (hv : vf ρ = .ok (wS [z])) (hc : ins b c = true) :
    gPut2 i kf kg vf ρ = .ok (.nx (ρ.set i (.ow (.LL ((setB b c z).map rD))))) := by
  obtain ⟨h1, h2, h3, h4⟩ := ins_iff.mp hc
  have n1 : ∀ i : Int, asN (wI i) = .ok i := fun _ => rfl
  have e1 : ixN (b.map rD).length c.1 = some c.1.toNat := ixN_pos h1 (by simpa using h2)
  have e2 : (b.map rD)[c.1.toNat]? = some (rD (b.getD c.1.toNat [])) := by
    rw [List.getElem?_map, List.getD_eq_getElem?_getD, List.getElem?_eq_getElem (by omega)]; rfl
  have hrow : (b.getD c.1.toNat []).length = wd b := by
    rw [List.getD_eq_getElem?_getD, List.getElem?_eq_getElem (by omega)]
    exact g _ (List.getElem_mem _)
  have e3 : ixN (rD (b.getD c.1.toNat [])).length c.2 = some c.2.toNat := ixN_pos h3 (by unfold rD; rw [List.length_map, hrow]; exact h4)
  have e4 : (setB b c z).map rD = (b.map rD).set c.1.toNat ((rD (b.getD c.1.toNat [])).set c.2.toNat (pR [z])) := by
    unfold setB
    rw [List.map_set]
    congr 1
    unfold rD; rw [List.map_set]
  unfold gPut2
  simp only [hv, bindok, asDat_wS, h, hk, n1, e1, opR, e2, hg, e3]
  rw [e4]
theorem D_beside {b : Bd} (g : Good b) {c : C2} (hc : ins b c = true) {k : Int} (hk : k = 4 ∨ k = 8) : F_beside [wB b, wC c, wI k] = .ok (wCs (near b c k)) := by
  simp only [fnSem, rho0, outW_rt, outW_nx, gSeq, Vd.gNil, gDo, gRet, gSet, gOwn, gIf, gAsg, gFrz, gKill, gThenKill, gThenFrz, gApp, gExt, gEx, nLst, fOt, otw, f1, f2, fT, fAnd, fOr, fNot, fAndV, fOrV, fNotV, fIf, fCal, aNil, aCons, fTup, fSl, oNo, oSo, fChain, fV, fO, fC, iVal, iL, setF, setO, nG, tupG, consG, nilG, killAt, frzAt, fzS, nDisp1T, fS1, cYes, unlG, bindok, bindex, bindno, noEx_ok, tb_bv, asDat_dat, asDat_wC, asDat_wI, asDat_bv, asDat_wR, asDat_wS, asDat_wN, pds_nil, pds_dat, pds_wI, pds_wC, pds_wR, pds_bv, asI_I, pAdd_I, pSub_I, pCmp_I, pNeg_I, List.map_cons, List.map_nil, List.length_cons, List.length_nil, List.replicate_succ, List.replicate_zero, List.cons_append, List.nil_append, List.getElem?_cons_zero, List.getElem?_cons_succ, List.getD_cons_zero, List.getD_cons_succ, List.set_cons_zero, List.set_cons_succ, Nat.reduceAdd, Nat.reduceSub, Nat.reduceLT, Nat.reduceLeDiff, Nat.zero_lt_succ, if_true, if_false, Bool.false_eq_true, decide_true, decide_false, Bool.not_true, Bool.not_false, Bool.true_and, Bool.and_true, reduceIte, reduceCtorEq, Bool.true_eq_false, Bool.false_eq_true, not_true_eq_false, not_false_eq_true, fits0, fits1, fits2, fits3, fits4, pLen_B, pLen_Cs, pLen_C, pGet_C0, pGet_C1, pGet_K0, pGet_K1, pGet_Cs0, pEq_I, pEq_C, pEq_Cs, pEq_bl, pIn_Cs, pIn_D, items_Cs, items_B, items_R, F_beside, g_beside, D_need_board g, D_need_cell g hc, D_need_ways hk, D_near g c hk]
end Cp



/-! S1: measures. -/
namespace Cp

open L2 PyProof.Rows PySem PySem.Spec Vd Bf

theorem pGet_Ps (ps : List (List C2)) {i : Nat} (h : i < ps.length) : pGet (wPs ps) (wI i) = .ok (wCs (ps.getD i [])) := by
  show optW .dat (atI (ps.map pCs) (i : Int)) = _
  rw [atI_pos (by omega) (by simpa using h), Int.toNat_natCast, List.getElem?_map, List.getElem?_eq_getElem h, List.getD_eq_getElem?_getD, List.getElem?_eq_getElem h]; rfl
theorem items_PsS (ps : List (List C2)) : items (wPs ps) = .ok (ps.map wCs) := by simp only [items, wPs, pPs, List.map_map]; rfl
def around (c : C2) : List C2 := [(c.1 - 1, c.2), (c.1 + 1, c.2), (c.1, c.2 - 1), (c.1, c.2 + 1)]
def openN (l : List C2) (c : C2) : Nat := ((around c).filter fun d => decide (¬ d ∈ l)).length
def sidesN (l : List C2) : Nat := (l.map (openN l)).sum
theorem foldl_sum {α : Type} (f : α → Nat) : ∀ (l : List α) (s : Nat), l.foldl (fun s a => s + f a) s = s + (l.map f).sum
  | [], s => by simp
  | a :: l, s => by rw [List.foldl_cons, foldl_sum f l, List.map_cons, List.sum_cons]; omega
section

variable {b : Bd} (g : Good b) {k : Int} (hk : k = 4 ∨ k = 8)

/-- the patch of a number -/
noncomputable def pat (b : Bd) (k : Int) (i : Nat) : List C2 := (parted b k).getD i []
include g in
theorem pat_mem {i : Nat} (h : i < (parted b k).length) : pat b k i ∈ parted b k := by
  unfold pat; rw [List.getD_eq_getElem?_getD, List.getElem?_eq_getElem h]; exact List.getElem_mem _
include g in
theorem pat_len {i : Nat} (h : i < (parted b k).length) : (pat b k i).length ≤ 64 := by
  obtain ⟨d, hd, e⟩ := (parted_inv (k := k) g).ex _ (pat_mem g h)
  rw [e]; exact patch_len g hd
include g in
theorem pat_ne {i : Nat} (h : i < (parted b k).length) : pat b k i ≠ [] := by
  obtain ⟨d, hd, e⟩ := (parted_inv (k := k) g).ex _ (pat_mem g h)
  rw [e]; intro q
  have := patch_mem.mpr (Sm.refl g (k := k) hd)
  rw [q] at this; simp at this
include g in
theorem parted_le : (parted b k).length ≤ 64 := by
  rw [parted_len g]
  have := nodup_le (firsts_reps (k := k) g).nd (m := allC b) (firsts_reps g).sub
  have := allC_len g
  omega
def wBox (l : List C2) : W := .dat (.tuple [.int (minI (l.map (·.1))), .int (minI (l.map (·.2))), .int (maxI (l.map (·.1))), .int (maxI (l.map (·.2)))])
noncomputable def sizesI (b : Bd) (k : Int) : List Int := (parted b k).map fun p => (p.length : Int)
theorem asIl_Is (l : List Int) : asIl (wIs l) = some l := asInts_map l
/-- at the edge -/
def edgeC (b : Bd) (c : C2) : Bool := decide (c.1 = 0 ∨ c.1 = (b.length : Int) - 1) || decide (c.2 = 0 ∨ c.2 = (wd b : Int) - 1)
def edgeL (b : Bd) (ps : List (List C2)) : List Int := ((ps.zipIdx 0).filter fun q => q.1.any (edgeC b)).map fun q => ((q.2 : Nat) : Int)
theorem pIn_T2 (i a b : Int) : pInW false (wI i) (.dat (.tuple [.int a, .int b])) = .ok (bv (decide (i = a ∨ i = b))) := by
  show R.ok (bv (decide (i ∈ [a, b]))) = _
  congr 2
  by_cases q : i = a ∨ i = b <;> simp [q]
end

end Cp


/-! S2: which patches touch. -/
namespace Cp

open L2 PyProof.Rows PySem PySem.Spec Vd Bf

theorem lkC_eqS {α : Type} {f : List (C2 × α)} (nd : (f.map (·.1)).Nodup) {c : C2} {x : α} (h : (c, x) ∈ f) : lkC f c = some x := by
  obtain ⟨y, h1, h2⟩ := lkC_some (List.mem_map_of_mem (f := (·.1)) h)
  have : ∀ (f : List (C2 × α)), (f.map (·.1)).Nodup → (c, x) ∈ f → (c, y) ∈ f → y = x := by
    intro f
    induction f with
    | nil => intro _ h; simp at h
    | cons p f ih =>
      intro nd h1 h2
      rw [List.map_cons, List.nodup_cons] at nd
      rcases List.mem_cons.mp h1 with e1 | h1
      · rcases List.mem_cons.mp h2 with e2 | h2
        · rw [← e1] at e2; exact (Prod.mk.inj e2).2
        · exact (nd.1 (by rw [← e1]; exact List.mem_map_of_mem (f := (·.1)) h2)).elim
      · rcases List.mem_cons.mp h2 with e2 | h2
        · exact (nd.1 (by rw [← e2]; exact List.mem_map_of_mem (f := (·.1)) h1)).elim
        · exact ih nd.2 h1 h2
  rw [h1, this f nd h h2]
def putC {α : Type} (f : List (C2 × α)) (p : C2) (x : α) : List (C2 × α) := if p ∈ f.map (·.1) then f.map fun q => if q.1 = p then (p, x) else q else f ++ [(p, x)]
theorem pt_Cg {α : Type} (e : α → Pd) (f : List (C2 × α)) (p : C2) (x : α) : pt (dCs e f) (kC p) (e x) = dCs e (putC f p x) := by
  unfold putC
  by_cases h : p ∈ f.map (·.1)
  · rw [if_pos h]
    unfold pt
    rw [if_pos]
    · unfold dCs
      rw [List.map_map, List.map_map]
      apply List.map_congr_left
      intro q _
      show (if kC q.1 = kC p then _ else _) = (kC (if q.1 = p then (p, x) else q).1, e (if q.1 = p then (p, x) else q).2)
      by_cases c : q.1 = p
      · rw [if_pos c, if_pos (kC_inj.mpr c)]; simp [c]
      · rw [if_neg c, if_neg (fun z => c (kC_inj.mp z))]
    · simp only [List.any_eq_true, decide_eq_true_eq, dCs, List.mem_map]
      obtain ⟨q, hq, rfl⟩ := List.mem_map.mp h
      exact ⟨_, ⟨q, hq, rfl⟩, rfl⟩
  · rw [if_neg h]; exact pt_C e f p x h
theorem gPut_Cg {α : Type} (e : α → Pd) {i : Nat} {kf vf : Rho → R W} {ρ : Rho} {f : List (C2 × α)} {c : C2} {x : α} (h : ρ[i]? = some (.ow (.dT (dCs e f)))) (hk : kf ρ = .ok (wC c)) (hv : vf ρ = .ok (.dat (e x))) (hl : f.length < sizeLine) :
    gPut i kf vf ρ = .ok (.nx (ρ.set i (.ow (.dT (dCs e (putC f c x)))))) := by
  unfold gPut
  simp only [hv, bindok, asDat_dat, h, hk, asDat_wC, keyT_C]
  rw [if_pos (by simpa [dCs] using hl), pt_Cg e f c x]
theorem pDGet_C (f : List (C2 × Nat)) (p : C2) : pDGet (.dT (dCs eN f)) (wC p) (wI 0) = .ok (wI ((lkC f p).getD 0 : Nat)) := by
  unfold pDGet
  rw [dLook_C, lk_C, bindok]
  cases lkC f p <;> rfl
/-- one more of a pair -/
def bump (f : List (C2 × Nat)) (p : C2) : List (C2 × Nat) := putC f p ((lkC f p).getD 0 + 1)
theorem bump_len (f : List (C2 × Nat)) (p : C2) : (bump f p).length ≤ f.length + 1 := by
  unfold bump putC; split <;> simp
structure BumpOk (pl : List C2) (f : List (C2 × Nat)) : Prop where
  nd : (f.map (·.1)).Nodup
  mem : ∀ p, p ∈ f.map (·.1) ↔ p ∈ pl
  val : ∀ p n, (p, n) ∈ f → n = pl.count p
theorem BumpOk.step {pl : List C2} {f : List (C2 × Nat)} (h : BumpOk pl f) (p : C2) : BumpOk (pl ++ [p]) (bump f p) := by
  unfold bump putC
  by_cases c : p ∈ f.map (·.1)
  · rw [if_pos c]
    obtain ⟨n, hn, hm⟩ := lkC_some c
    have hmap : (f.map fun q => if q.1 = p then (p, (lkC f p).getD 0 + 1) else q).map (·.1) = f.map (·.1) := by
      rw [List.map_map]
      apply List.map_congr_left
      intro q _
      show (if q.1 = p then (p, (lkC f p).getD 0 + 1) else q).1 = q.1
      by_cases e : q.1 = p <;> simp [e]
    refine ⟨by rw [hmap]; exact h.nd, fun x => ?_, fun x m hx => ?_⟩
    · rw [hmap, h.mem, List.mem_append]
      exact ⟨.inl, fun z => z.elim id fun z => by simp at z; subst z; exact (h.mem _).mp c⟩
    · obtain ⟨q, hq, e⟩ := List.mem_map.mp hx
      by_cases e2 : q.1 = p
      · rw [if_pos e2] at e
        obtain ⟨e3, e4⟩ := Prod.mk.inj e
        subst e3
        rw [← e4, hn, List.count_append, ← h.val _ _ hm]; simp
      · rw [if_neg e2] at e
        subst e
        rw [List.count_append, h.val _ _ hq, List.count_singleton]
        simp [Ne.symm e2]
  · rw [if_neg c]
    refine ⟨?_, fun x => ?_, fun x m hx => ?_⟩
    · rw [List.map_append, List.nodup_append]
      exact ⟨h.nd, by simp, fun a ha d hd e => by simp at hd; subst hd; exact c (e ▸ ha)⟩
    · rw [List.map_append, List.mem_append, List.mem_append, h.mem]; simp
    · have hz : pl.count p = 0 := List.count_eq_zero.mpr fun z => c ((h.mem p).mpr z)
      rcases List.mem_append.mp hx with hx | hx
      · have hne : x ≠ p := fun e => c (by rw [← e]; exact List.mem_map_of_mem (f := (·.1)) hx)
        rw [List.count_append, h.val _ _ hx, List.count_singleton]
        simp [Ne.symm hne]
      · simp at hx
        obtain ⟨rfl, rfl⟩ := hx
        have hl : lkC f x = none := by
          have := lkC_none f x
          rw [decide_eq_false c] at this
          simpa using this
        rw [hl, List.count_append, hz]; simp
theorem BumpOk.fold : ∀ (l pl : List C2) (f : List (C2 × Nat)), BumpOk pl f → BumpOk (pl ++ l) (l.foldl bump f)
  | [], pl, f, h => by simpa using h
  | a :: l, pl, f, h => by
    have := BumpOk.fold l (pl ++ [a]) _ (h.step a)
    rw [List.foldl_cons]
    simpa using this
theorem BumpOk.nil : BumpOk [] [] := ⟨by simp, by simp, by simp⟩
section

variable {b : Bd} (g : Good b) {k : Int} (hk : k = 4 ∨ k = 8)

noncomputable def num (b : Bd) (k : Int) (c : C2) : Int := (numAt (parted b k) c : Nat)
noncomputable def rowT (b : Bd) (k : Int) (c : C2) : List C2 := ((near b c 4).filter fun d => decide (num b k c < num b k d)).map fun d => (num b k c, num b k d)
noncomputable def pairsT (b : Bd) (k : Int) : List C2 := (allC b).flatMap (rowT b k)
noncomputable def keysT (b : Bd) (k : Int) : List C2 := srtC (((pairsT b k).foldl bump []).map (·.1))
noncomputable def wT (b : Bd) (k : Int) : W := .dat (.list ((keysT b k).map fun p => .tuple [pC p, .int ((pairsT b k).count p : Nat)]))
theorem pairs_ok (b : Bd) (k : Int) : BumpOk (pairsT b k) ((pairsT b k).foldl bump []) := by
  have := BumpOk.fold (pairsT b k) [] [] BumpOk.nil
  simpa using this
theorem keysT_mem {p : C2} : p ∈ keysT b k ↔ p ∈ pairsT b k := by unfold keysT; rw [srtC_mem]; exact (pairs_ok b k).mem p
theorem keysT_nodup (b : Bd) (k : Int) : (keysT b k).Nodup := by
  unfold keysT srtC
  exact (List.mergeSort_perm _ _).nodup_iff.mpr (pairs_ok b k).nd
theorem rowT_len (b : Bd) (k : Int) (c : C2) : (rowT b k c).length ≤ 8 := by
  unfold rowT
  rw [List.length_map]
  have := List.length_filter_le (fun d => decide (num b k c < num b k d)) (near b c 4)
  have := near_len b c 4
  omega
theorem pairsT_len (g : Good b) : (pairsT b k).length ≤ 512 := by
  unfold pairsT
  have : ∀ l : List C2, (l.flatMap (rowT b k)).length ≤ l.length * 8 := fun l => by
    induction l with
    | nil => simp
    | cons a l ih =>
      rw [List.flatMap_cons, List.length_append, List.length_cons]
      have := rowT_len b k a
      omega
  have := this (allC b)
  have := allC_len g
  omega
theorem bump_fold_len : ∀ (l : List C2) (f : List (C2 × Nat)), (l.foldl bump f).length ≤ f.length + l.length
  | [], f => by simp
  | a :: l, f => by
    have := bump_fold_len l (bump f a)
    have := bump_len f a
    rw [List.foldl_cons, List.length_cons]; omega
include g in
theorem pGet_own {c : C2} (h : ins b c = true) : pGet (.dT (dCs eN (placesL (parted b k)))) (wC c) = .ok (wI (num b k c)) := by
  have hk2 : c ∈ (placesL (parted b k)).map (·.1) := by
    rw [placesL_keys]
    obtain ⟨p, hp, hc⟩ := parted_all (k := k) g h
    exact List.mem_flatten.mpr ⟨p, hp, hc⟩
  obtain ⟨n, hn, _⟩ := lkC_some hk2
  have e : num b k c = (n : Int) := by unfold num numAt; rw [hn]; rfl
  rw [pGet_D eN _ _ hn, e]; rfl
def stT (b : Bd) (k : Int) (ps : List (List C2)) (f : List (C2 × Nat)) (x y z : Sl) : Rho := [.fz (wB b), .fz (wI k), .ow (.dT (dCs eN f)), .fz (wPs ps), .fz (.dT (dCs eN (placesL ps))), x, y, z]
end

end Cp


/-! S3: boards turned; sums over cells. -/
namespace Cp

open L2 PyProof.Rows PySem PySem.Spec Vd Bf

/-- the same board, its cells elsewhere -/
structure Iso (b t : Bd) (k : Int) (φ ψ : C2 → C2) : Prop where
  i1 : ∀ x, Vd.ins b x = true → Vd.ins t (φ x) = true
  i2 : ∀ x, Vd.ins t x = true → Vd.ins b (ψ x) = true
  l1 : ∀ x, Vd.ins b x = true → Vd.ltr t (φ x) = Vd.ltr b x
  l2 : ∀ x, Vd.ins t x = true → Vd.ltr b (ψ x) = Vd.ltr t x
  n1 : ∀ x y, Vd.ins b x = true → y ∈ near b x k → φ y ∈ near t (φ x) k
  n2 : ∀ x y, Vd.ins t x = true → y ∈ near t x k → ψ y ∈ near b (ψ x) k
  pf : ∀ x, ψ (φ x) = x
  fp : ∀ x, φ (ψ x) = x
section

variable {b t : Bd} {k : Int} {φ ψ : C2 → C2} (g : Good b) (gt : Good t) (I : Iso b t k φ ψ)

include g gt I in
theorem Iso.sm1 {c d : C2} (hc : Vd.ins b c = true) (h : Sm b k c d) : Sm t k (φ c) (φ d) :=
  (Sm.carry (P := fun x => Vd.ins b x = true) (φ := φ) g gt (fun x y _ h _ => near_ins h) I.i1 (fun x y hx hy h e => ⟨I.n1 x y hx h, by rw [I.l1 y hy, I.l1 x hx]; exact e⟩) hc hc h).2
include g gt I in
theorem Iso.sm2 {c d : C2} (hc : Vd.ins b c = true) (h : Sm t k (φ c) (φ d)) : Sm b k c d := by
  have := (Sm.carry (P := fun x => Vd.ins t x = true) (φ := ψ) (b := t) (b' := b) (k' := k) gt g (fun x y _ h _ => near_ins h) I.i2 (fun x y hx hy h e => ⟨I.n2 x y hx h, by rw [I.l2 y hy, I.l2 x hx]; exact e⟩) (I.i1 c hc) (I.i1 c hc) h).2
  rwa [I.pf, I.pf] at this
theorem inj_of {φ ψ : C2 → C2} (pf : ∀ x, ψ (φ x) = x) : ∀ x y, φ x = φ y → x = y := fun x y e => by rw [← pf x, e, pf]
include I in
theorem Iso.all : ((allC b).map φ).Perm (allC t) := by
  refine (List.perm_ext_iff_of_nodup (nodup_map_on (allC_nodup b) fun x _ y _ e => inj_of I.pf x y e) (allC_nodup t)).mpr fun c => ?_
  rw [List.mem_map]
  constructor
  · rintro ⟨x, hx, rfl⟩; exact allC_mem.mpr (I.i1 x (allC_mem.mp hx))
  · intro h; exact ⟨ψ c, allC_mem.mpr (I.i2 c (allC_mem.mp h)), I.fp c⟩
include g gt I in
theorem Iso.perm : ∃ ρ : C2 → C2, ((firsts b k).map ρ).Perm (firsts t k) ∧ ∀ c ∈ firsts b k, (patch t k (ρ c)).Perm ((patch b k c).map φ) := by
  obtain ⟨ρ, h1, h2⟩ := reps_perm (firsts_reps (k := k) g) (firsts_reps (k := k) gt) (sm_eqv gt) φ (fun c hc => allC_mem.mpr (I.i1 c (allC_mem.mp hc))) (fun c hc d _ h => I.sm1 g gt (allC_mem.mp hc) h) (fun c hc d _ h => I.sm2 g gt (allC_mem.mp hc) h)
    (fun c' hc' => ⟨ψ c', allC_mem.mpr (I.i2 c' (allC_mem.mp hc')), by rw [I.fp]; exact Sm.refl gt (allC_mem.mp hc')⟩)
  refine ⟨ρ, h1, fun c hc => ?_⟩
  have hci := (firsts_mem.mp hc).1
  obtain ⟨m1, m2⟩ := h2 c hc
  rw [← patch_eq gt (I.i1 c hci) m2]
  refine (List.perm_ext_iff_of_nodup (patch_nodup gt (I.i1 c hci)) (nodup_map_on (patch_nodup g hci) fun x _ y _ e => inj_of I.pf x y e)).mpr fun d => ?_
  rw [patch_mem, List.mem_map]
  constructor
  · intro h
    refine ⟨ψ d, patch_mem.mpr (I.sm2 g gt hci ?_), I.fp d⟩
    rw [I.fp]; exact h
  · rintro ⟨x, hx, rfl⟩; exact I.sm1 g gt hci (patch_mem.mp hx)
end
/-! ### turned to the right -/
def turnB (b : Bd) : Bd := (List.range (wd b)).map fun j => b.reverse.map fun r => r.getD j 0
theorem turnB_len (b : Bd) : (turnB b).length = wd b := by simp [turnB]
theorem turnB_wd {b : Bd} (g : Good b) : wd (turnB b) = b.length := by
  have := g.w1
  unfold wd turnB
  rw [List.getD_eq_getElem?_getD, List.getElem?_map, List.getElem?_range (by omega)]
  simp
theorem turnB_good {b : Bd} (g : Good b) : Good (turnB b) := by
  have hw := turnB_wd g
  refine ⟨by rw [turnB_len]; exact g.w1, by rw [turnB_len]; exact g.w8, by rw [hw]; exact g.h1, by rw [hw]; exact g.h8, fun r hr => ?_, fun r hr c hc => ?_⟩
  · obtain ⟨j, _, rfl⟩ := List.mem_map.mp hr
    rw [hw, List.length_map, List.length_reverse]
  · obtain ⟨j, hj, rfl⟩ := List.mem_map.mp hr
    obtain ⟨r0, h0, rfl⟩ := List.mem_map.mp hc
    rw [List.mem_range] at hj
    have h0 := List.mem_reverse.mp h0
    have hl := g.row r0 h0
    refine g.lets r0 h0 _ ?_
    rw [List.getD_eq_getElem?_getD, List.getElem?_eq_getElem (by omega)]
    exact List.getElem_mem _
theorem D_turned {b : Bd} (g : Good b) : F_turned [wB b] = .ok (wB (turnB b)) := by
  have a1 := g.h8
  have a2 := g.w8
  simp only [fnSem, rho0, outW_rt, outW_nx, gSeq, Vd.gNil, gDo, gRet, gSet, gOwn, gIf, gAsg, gFrz, gKill, gThenKill, gThenFrz, gApp, gExt, gEx, nLst, fOt, otw, f1, f2, fT, fAnd, fOr, fNot, fAndV, fOrV, fNotV, fIf, fCal, aNil, aCons, fTup, fSl, oNo, oSo, fChain, fV, fO, fC, iVal, iL, setF, setO, nG, tupG, consG, nilG, killAt, frzAt, fzS, nDisp1T, fS1, cYes, unlG, bindok, bindex, bindno, noEx_ok, tb_bv, asDat_dat, asDat_wC, asDat_wI, asDat_bv, asDat_wR, asDat_wS, asDat_wN, pds_nil, pds_dat, pds_wI, pds_wC, pds_wR, pds_bv, asI_I, pAdd_I, pSub_I, pCmp_I, pNeg_I, List.map_cons, List.map_nil, List.length_cons, List.length_nil, List.replicate_succ, List.replicate_zero, List.cons_append, List.nil_append, List.getElem?_cons_zero, List.getElem?_cons_succ, List.getD_cons_zero, List.getD_cons_succ, List.set_cons_zero, List.set_cons_succ, Nat.reduceAdd, Nat.reduceSub, Nat.reduceLT, Nat.reduceLeDiff, Nat.zero_lt_succ, if_true, if_false, Bool.false_eq_true, decide_true, decide_false, Bool.not_true, Bool.not_false, Bool.true_and, Bool.and_true, reduceIte, reduceCtorEq, Bool.true_eq_false, Bool.false_eq_true, not_true_eq_false, not_false_eq_true, fits0, fits1, fits2, fits3, fits4, pLen_B, pLen_Cs, pLen_C, pGet_C0, pGet_C1, pGet_K0, pGet_K1, pGet_Cs0, pEq_I, pEq_C, pEq_Cs, pEq_bl, pIn_Cs, pIn_D, items_Cs, items_B, items_R, F_turned, g_turned, D_need_board g]
  rw [nLc_all (fun j : Nat => wI (j : Nat)) (List.range (wd b)) (fun j => pR (b.reverse.map fun r => r.getD j 0))]
  · have e3 : (List.range (wd b)).map (fun j => pR (b.reverse.map fun r => r.getD j 0)) = (turnB b).map pR := by unfold turnB; rw [List.map_map]; rfl
    simp only [fnSem, rho0, outW_rt, outW_nx, gSeq, Vd.gNil, gDo, gRet, gSet, gOwn, gIf, gAsg, gFrz, gKill, gThenKill, gThenFrz, gApp, gExt, gEx, nLst, fOt, otw, f1, f2, fT, fAnd, fOr, fNot, fAndV, fOrV, fNotV, fIf, fCal, aNil, aCons, fTup, fSl, oNo, oSo, fChain, fV, fO, fC, iVal, iL, setF, setO, nG, tupG, consG, nilG, killAt, frzAt, fzS, nDisp1T, fS1, cYes, unlG, bindok, bindex, bindno, noEx_ok, tb_bv, asDat_dat, asDat_wC, asDat_wI, asDat_bv, asDat_wR, asDat_wS, asDat_wN, pds_nil, pds_dat, pds_wI, pds_wC, pds_wR, pds_bv, asI_I, pAdd_I, pSub_I, pCmp_I, pNeg_I, List.map_cons, List.map_nil, List.length_cons, List.length_nil, List.replicate_succ, List.replicate_zero, List.cons_append, List.nil_append, List.getElem?_cons_zero, List.getElem?_cons_succ, List.getD_cons_zero, List.getD_cons_succ, List.set_cons_zero, List.set_cons_succ, Nat.reduceAdd, Nat.reduceSub, Nat.reduceLT, Nat.reduceLeDiff, Nat.zero_lt_succ, if_true, if_false, Bool.false_eq_true, decide_true, decide_false, Bool.not_true, Bool.not_false, Bool.true_and, Bool.and_true, reduceIte, reduceCtorEq, Bool.true_eq_false, Bool.false_eq_true, not_true_eq_false, not_false_eq_true, fits0, fits1, fits2, fits3, fits4, pLen_B, pLen_Cs, pLen_C, pGet_C0, pGet_C1, pGet_K0, pGet_K1, pGet_Cs0, pEq_I, pEq_C, pEq_Cs, pEq_bl, pIn_Cs, pIn_D, items_Cs, items_B, items_R, e3, pTuple_R]
  · simp only [fnSem, rho0, outW_rt, outW_nx, gSeq, Vd.gNil, gDo, gRet, gSet, gOwn, gIf, gAsg, gFrz, gKill, gThenKill, gThenFrz, gApp, gExt, gEx, nLst, fOt, otw, f1, f2, fT, fAnd, fOr, fNot, fAndV, fOrV, fNotV, fIf, fCal, aNil, aCons, fTup, fSl, oNo, oSo, fChain, fV, fO, fC, iVal, iL, setF, setO, nG, tupG, consG, nilG, killAt, frzAt, fzS, nDisp1T, fS1, cYes, unlG, bindok, bindex, bindno, noEx_ok, tb_bv, asDat_dat, asDat_wC, asDat_wI, asDat_bv, asDat_wR, asDat_wS, asDat_wN, pds_nil, pds_dat, pds_wI, pds_wC, pds_wR, pds_bv, asI_I, pAdd_I, pSub_I, pCmp_I, pNeg_I, List.map_cons, List.map_nil, List.length_cons, List.length_nil, List.replicate_succ, List.replicate_zero, List.cons_append, List.nil_append, List.getElem?_cons_zero, List.getElem?_cons_succ, List.getD_cons_zero, List.getD_cons_succ, List.set_cons_zero, List.set_cons_succ, Nat.reduceAdd, Nat.reduceSub, Nat.reduceLT, Nat.reduceLeDiff, Nat.zero_lt_succ, if_true, if_false, Bool.false_eq_true, decide_true, decide_false, Bool.not_true, Bool.not_false, Bool.true_and, Bool.and_true, reduceIte, reduceCtorEq, Bool.true_eq_false, Bool.false_eq_true, not_true_eq_false, not_false_eq_true, fits0, fits1, fits2, fits3, fits4, pLen_B, pLen_Cs, pLen_C, pGet_C0, pGet_C1, pGet_K0, pGet_K1, pGet_Cs0, pEq_I, pEq_C, pEq_Cs, pEq_bl, pIn_Cs, pIn_D, items_Cs, items_B, items_R, g.get0, g.len0]
    rw [rng1_I _ (by omega) (by omega), Int.toNat_natCast]
  · rw [List.length_range]; unfold sizeLine; omega
  · intro j hj
    rw [List.mem_range] at hj
    refine ⟨_, rfl, rfl, ?_⟩
    simp only [fnSem, rho0, outW_rt, outW_nx, gSeq, Vd.gNil, gDo, gRet, gSet, gOwn, gIf, gAsg, gFrz, gKill, gThenKill, gThenFrz, gApp, gExt, gEx, nLst, fOt, otw, f1, f2, fT, fAnd, fOr, fNot, fAndV, fOrV, fNotV, fIf, fCal, aNil, aCons, fTup, fSl, oNo, oSo, fChain, fV, fO, fC, iVal, iL, setF, setO, nG, tupG, consG, nilG, killAt, frzAt, fzS, nDisp1T, fS1, cYes, unlG, bindok, bindex, bindno, noEx_ok, tb_bv, asDat_dat, asDat_wC, asDat_wI, asDat_bv, asDat_wR, asDat_wS, asDat_wN, pds_nil, pds_dat, pds_wI, pds_wC, pds_wR, pds_bv, asI_I, pAdd_I, pSub_I, pCmp_I, pNeg_I, List.map_cons, List.map_nil, List.length_cons, List.length_nil, List.replicate_succ, List.replicate_zero, List.cons_append, List.nil_append, List.getElem?_cons_zero, List.getElem?_cons_succ, List.getD_cons_zero, List.getD_cons_succ, List.set_cons_zero, List.set_cons_succ, Nat.reduceAdd, Nat.reduceSub, Nat.reduceLT, Nat.reduceLeDiff, Nat.zero_lt_succ, if_true, if_false, Bool.false_eq_true, decide_true, decide_false, Bool.not_true, Bool.not_false, Bool.true_and, Bool.and_true, reduceIte, reduceCtorEq, Bool.true_eq_false, Bool.false_eq_true, not_true_eq_false, not_false_eq_true, fits0, fits1, fits2, fits3, fits4, pLen_B, pLen_Cs, pLen_C, pGet_C0, pGet_C1, pGet_K0, pGet_K1, pGet_Cs0, pEq_I, pEq_C, pEq_Cs, pEq_bl, pIn_Cs, pIn_D, items_Cs, items_B, items_R]
    rw [nLc_all wR b.reverse (fun r => pR [r.getD j 0])]
    · have e1 : strA (wS []) = some (S []) := rfl
      have e2 : b.reverse.map (fun r => pR [r.getD j 0]) = (b.reverse.map fun r => r.getD j 0).map fun c => pR [c] := by rw [List.map_map]; rfl
      simp only [fnSem, rho0, outW_rt, outW_nx, gSeq, Vd.gNil, gDo, gRet, gSet, gOwn, gIf, gAsg, gFrz, gKill, gThenKill, gThenFrz, gApp, gExt, gEx, nLst, fOt, otw, f1, f2, fT, fAnd, fOr, fNot, fAndV, fOrV, fNotV, fIf, fCal, aNil, aCons, fTup, fSl, oNo, oSo, fChain, fV, fO, fC, iVal, iL, setF, setO, nG, tupG, consG, nilG, killAt, frzAt, fzS, nDisp1T, fS1, cYes, unlG, bindok, bindex, bindno, noEx_ok, tb_bv, asDat_dat, asDat_wC, asDat_wI, asDat_bv, asDat_wR, asDat_wS, asDat_wN, pds_nil, pds_dat, pds_wI, pds_wC, pds_wR, pds_bv, asI_I, pAdd_I, pSub_I, pCmp_I, pNeg_I, List.map_cons, List.map_nil, List.length_cons, List.length_nil, List.replicate_succ, List.replicate_zero, List.cons_append, List.nil_append, List.getElem?_cons_zero, List.getElem?_cons_succ, List.getD_cons_zero, List.getD_cons_succ, List.set_cons_zero, List.set_cons_succ, Nat.reduceAdd, Nat.reduceSub, Nat.reduceLT, Nat.reduceLeDiff, Nat.zero_lt_succ, if_true, if_false, Bool.false_eq_true, decide_true, decide_false, Bool.not_true, Bool.not_false, Bool.true_and, Bool.and_true, reduceIte, reduceCtorEq, Bool.true_eq_false, Bool.false_eq_true, not_true_eq_false, not_false_eq_true, fits0, fits1, fits2, fits3, fits4, pLen_B, pLen_Cs, pLen_C, pGet_C0, pGet_C1, pGet_K0, pGet_K1, pGet_Cs0, pEq_I, pEq_C, pEq_Cs, pEq_bl, pIn_Cs, pIn_D, items_Cs, items_B, items_R, e1, e2, pJoin_S _ (show (b.reverse.map fun r => r.getD j 0).length ≤ 1000 by rw [List.length_map, List.length_reverse]; omega)]
      rfl
    · simp only [fnSem, rho0, outW_rt, outW_nx, gSeq, Vd.gNil, gDo, gRet, gSet, gOwn, gIf, gAsg, gFrz, gKill, gThenKill, gThenFrz, gApp, gExt, gEx, nLst, fOt, otw, f1, f2, fT, fAnd, fOr, fNot, fAndV, fOrV, fNotV, fIf, fCal, aNil, aCons, fTup, fSl, oNo, oSo, fChain, fV, fO, fC, iVal, iL, setF, setO, nG, tupG, consG, nilG, killAt, frzAt, fzS, nDisp1T, fS1, cYes, unlG, bindok, bindex, bindno, noEx_ok, tb_bv, asDat_dat, asDat_wC, asDat_wI, asDat_bv, asDat_wR, asDat_wS, asDat_wN, pds_nil, pds_dat, pds_wI, pds_wC, pds_wR, pds_bv, asI_I, pAdd_I, pSub_I, pCmp_I, pNeg_I, List.map_cons, List.map_nil, List.length_cons, List.length_nil, List.replicate_succ, List.replicate_zero, List.cons_append, List.nil_append, List.getElem?_cons_zero, List.getElem?_cons_succ, List.getD_cons_zero, List.getD_cons_succ, List.set_cons_zero, List.set_cons_succ, Nat.reduceAdd, Nat.reduceSub, Nat.reduceLT, Nat.reduceLeDiff, Nat.zero_lt_succ, if_true, if_false, Bool.false_eq_true, decide_true, decide_false, Bool.not_true, Bool.not_false, Bool.true_and, Bool.and_true, reduceIte, reduceCtorEq, Bool.true_eq_false, Bool.false_eq_true, not_true_eq_false, not_false_eq_true, fits0, fits1, fits2, fits3, fits4, pLen_B, pLen_Cs, pLen_C, pGet_C0, pGet_C1, pGet_K0, pGet_K1, pGet_Cs0, pEq_I, pEq_C, pEq_Cs, pEq_bl, pIn_Cs, pIn_D, items_Cs, items_B, items_R, pRevA_B]
    · rw [List.length_reverse]; unfold sizeLine; omega
    · intro r hr
      have h0 := List.mem_reverse.mp hr
      have hl := g.row r h0
      refine ⟨_, rfl, rfl, ?_⟩
      simp only [fnSem, rho0, outW_rt, outW_nx, gSeq, Vd.gNil, gDo, gRet, gSet, gOwn, gIf, gAsg, gFrz, gKill, gThenKill, gThenFrz, gApp, gExt, gEx, nLst, fOt, otw, f1, f2, fT, fAnd, fOr, fNot, fAndV, fOrV, fNotV, fIf, fCal, aNil, aCons, fTup, fSl, oNo, oSo, fChain, fV, fO, fC, iVal, iL, setF, setO, nG, tupG, consG, nilG, killAt, frzAt, fzS, nDisp1T, fS1, cYes, unlG, bindok, bindex, bindno, noEx_ok, tb_bv, asDat_dat, asDat_wC, asDat_wI, asDat_bv, asDat_wR, asDat_wS, asDat_wN, pds_nil, pds_dat, pds_wI, pds_wC, pds_wR, pds_bv, asI_I, pAdd_I, pSub_I, pCmp_I, pNeg_I, List.map_cons, List.map_nil, List.length_cons, List.length_nil, List.replicate_succ, List.replicate_zero, List.cons_append, List.nil_append, List.getElem?_cons_zero, List.getElem?_cons_succ, List.getD_cons_zero, List.getD_cons_succ, List.set_cons_zero, List.set_cons_succ, Nat.reduceAdd, Nat.reduceSub, Nat.reduceLT, Nat.reduceLeDiff, Nat.zero_lt_succ, if_true, if_false, Bool.false_eq_true, decide_true, decide_false, Bool.not_true, Bool.not_false, Bool.true_and, Bool.and_true, reduceIte, reduceCtorEq, Bool.true_eq_false, Bool.false_eq_true, not_true_eq_false, not_false_eq_true, fits0, fits1, fits2, fits3, fits4, pLen_B, pLen_Cs, pLen_C, pGet_C0, pGet_C1, pGet_K0, pGet_K1, pGet_Cs0, pEq_I, pEq_C, pEq_Cs, pEq_bl, pIn_Cs, pIn_D, items_Cs, items_B, items_R]
      rw [pGet_R r (j : Int) (by omega) (by omega) (by rw [hl]; unfold sizeLine; omega), Int.toNat_natCast]; rfl
def tuφ (b : Bd) (c : C2) : C2 := (c.2, (b.length : Int) - 1 - c.1)
def tuψ (b : Bd) (c : C2) : C2 := ((b.length : Int) - 1 - c.2, c.1)
theorem turn_ltr {b : Bd} (g : Good b) {x : C2} (h : ins b x = true) : Vd.ltr (turnB b) (tuφ b x) = Vd.ltr b x := by
  obtain ⟨h1, h2, h3, h4⟩ := ins_iff.mp h
  unfold Vd.ltr turnB tuφ
  simp only
  rw [List.getD_eq_getElem?_getD (l := (List.range _).map _), List.getElem?_map, List.getElem?_range (by omega)]
  simp only [Option.map_some, Option.getD_some]
  rw [List.getD_eq_getElem?_getD, List.getElem?_map, List.getElem?_reverse (by omega), List.getD_eq_getElem?_getD (l := b)]
  rw [show b.length - 1 - ((b.length : Int) - 1 - x.1).toNat = x.1.toNat by omega, List.getElem?_eq_getElem (by omega)]
  simp
theorem turn_iso {b : Bd} (g : Good b) (k : Int) : Iso b (turnB b) k (tuφ b) (tuψ b) := by
  have hw := turnB_wd g
  have i1 : ∀ x, Vd.ins b x = true → Vd.ins (turnB b) (tuφ b x) = true := fun x h => by
    obtain ⟨h1, h2, h3, h4⟩ := ins_iff.mp h
    exact ins_iff.mpr ⟨h3, by rw [turnB_len]; exact h4, by unfold tuφ; simp; omega, by rw [hw]; unfold tuφ; simp; omega⟩
  have i2 : ∀ x, Vd.ins (turnB b) x = true → Vd.ins b (tuψ b x) = true := fun x h => by
    obtain ⟨h1, h2, h3, h4⟩ := ins_iff.mp h
    rw [turnB_len] at h2
    rw [hw] at h4
    exact ins_iff.mpr ⟨by unfold tuψ; simp; omega, by unfold tuψ; simp; omega, h1, h2⟩
  have pf : ∀ x, tuψ b (tuφ b x) = x := fun x => by unfold tuψ tuφ; exact Prod.ext (by simp; omega) rfl
  have fp : ∀ x, tuφ b (tuψ b x) = x := fun x => by unfold tuψ tuφ; exact Prod.ext rfl (by simp; omega)
  have s1 : ∀ s ∈ stepsL k, ((s.2, -s.1) : C2) ∈ stepsL k := by unfold stepsL; split <;> decide
  have s2 : ∀ s ∈ stepsL k, ((-s.2, s.1) : C2) ∈ stepsL k := by unfold stepsL; split <;> decide
  refine ⟨i1, i2, fun x h => turn_ltr g h, fun x h => ?_, fun x y hx hy => ?_, fun x y hx hy => ?_, pf, fp⟩
  · have := turn_ltr g (i2 x h)
    rw [fp] at this; exact this.symm
  · obtain ⟨h1, s, h2, rfl⟩ := near_mem.mp hy
    refine near_mem.mpr ⟨i1 _ h1, _, s1 s h2, ?_⟩
    unfold tuφ; exact Prod.ext rfl (by simp; omega)
  · obtain ⟨h1, s, h2, rfl⟩ := near_mem.mp hy
    refine near_mem.mpr ⟨i2 _ h1, _, s2 s h2, ?_⟩
    unfold tuψ; exact Prod.ext (by simp; omega) rfl
/-! ### sums -/
theorem filter_len {α : Type} (p : α → Bool) : ∀ l : List α, (l.filter p).length = (l.map fun a => if p a = true then 1 else 0).sum
  | [] => rfl
  | a :: l => by
    rw [List.filter_cons, List.map_cons, List.sum_cons, ← filter_len p l]
    by_cases h : p a = true
    · rw [if_pos h, if_pos h, List.length_cons]; omega
    · rw [if_neg h, if_neg h]; omega
theorem sum_add {α : Type} (f h : α → Nat) : ∀ l : List α, (l.map fun a => f a + h a).sum = (l.map f).sum + (l.map h).sum
  | [] => rfl
  | a :: l => by simp only [List.map_cons, List.sum_cons, sum_add f h l]; omega
theorem sum_zero {α : Type} {f : α → Nat} : ∀ {l : List α}, (∀ a ∈ l, f a = 0) → (l.map f).sum = 0
  | [], _ => rfl
  | a :: l, h => by rw [List.map_cons, List.sum_cons, h a List.mem_cons_self, sum_zero fun x hx => h x (List.mem_cons_of_mem _ hx)]
theorem sum_congr {α : Type} {f h : α → Nat} {l : List α} (e : ∀ a ∈ l, f a = h a) : (l.map f).sum = (l.map h).sum := by rw [List.map_congr_left e]
theorem sum_swap {α β : Type} (f : α → β → Nat) (m : List β) : ∀ l : List α, (l.map fun a => (m.map fun c => f a c).sum).sum = (m.map fun c => (l.map fun a => f a c).sum).sum
  | [] => by simp only [List.map_nil, List.sum_nil]; exact (sum_zero fun _ _ => rfl).symm
  | a :: l => by
    simp only [List.map_cons, List.sum_cons]
    rw [sum_swap f m l, ← sum_add]
theorem sum_perm {l m : List Nat} (p : l.Perm m) : l.sum = m.sum := p.sum_nat
theorem sum_filter {α : Type} (p : α → Bool) (f : α → Nat) : ∀ l : List α, ((l.filter p).map f).sum = (l.map fun a => if p a = true then f a else 0).sum
  | [] => rfl
  | a :: l => by
    rw [List.filter_cons, List.map_cons, List.sum_cons, ← sum_filter p f l]
    by_cases h : p a = true
    · rw [if_pos h, if_pos h, List.map_cons, List.sum_cons]
    · rw [if_neg h, if_neg h]; omega
theorem len_flatMap {α β : Type} (f : α → List β) : ∀ l : List α, (l.flatMap f).length = (l.map fun a => (f a).length).sum
  | [] => rfl
  | a :: l => by rw [List.flatMap_cons, List.length_append, List.map_cons, List.sum_cons, len_flatMap f l]
theorem filter_flatMap {α β : Type} (f : α → List β) (p : β → Bool) : ∀ l : List α, (l.flatMap f).filter p = l.flatMap fun a => (f a).filter p
  | [] => rfl
  | a :: l => by rw [List.flatMap_cons, List.filter_append, List.flatMap_cons, filter_flatMap f p l]
/-- counts over the keys come to the whole -/
theorem count_sum (q : C2 → Bool) {K : List C2} (nd : K.Nodup) : ∀ (pl : List C2), (∀ p ∈ pl, p ∈ K) → ((K.filter q).map fun p => pl.count p).sum = (pl.filter q).length
  | [], _ => by simp only [List.count_nil, List.filter_nil, List.length_nil]; exact sum_zero fun _ _ => rfl
  | a :: pl, h => by
    have ih := count_sum q nd pl fun p hp => h p (List.mem_cons_of_mem _ hp)
    have ha := h a List.mem_cons_self
    have e1 : ((K.filter q).map fun p => (a :: pl).count p).sum = ((K.filter q).map fun p => pl.count p).sum + ((K.filter q).map fun p => if a == p then 1 else 0).sum := by
      rw [← sum_add]
      apply sum_congr
      intro p _
      rw [List.count_cons]
    have e2 : ((K.filter q).map fun p => if a == p then 1 else 0).sum = if q a = true then 1 else 0 := by
      have : ∀ (L : List C2), L.Nodup → (L.map fun p => if a == p then 1 else 0).sum = if a ∈ L then 1 else 0 := by
        intro L
        induction L with
        | nil => intro _; simp
        | cons c L ih =>
          intro hn
          rw [List.nodup_cons] at hn
          rw [List.map_cons, List.sum_cons, ih hn.2]
          by_cases e : a = c
          · subst e; simp [hn.1]
          · have e' : (a == c) = false := by simpa using e
            simp [e, e']
      rw [this _ (nd.filter _)]
      by_cases c : q a = true
      · rw [if_pos c, if_pos (List.mem_filter.mpr ⟨ha, c⟩)]
      · rw [if_neg c, if_neg (fun z => c (List.mem_filter.mp z).2)]
    rw [e1, ih, e2, List.filter_cons]
    by_cases c : q a = true
    · rw [if_pos c, if_pos c, List.length_cons]
    · rw [if_neg c, if_neg c]; rfl
end Cp


/-! S4: sides counted twice. -/
namespace Cp

open L2 PyProof.Rows PySem PySem.Spec Vd Bf

section

variable {b : Bd} (g : Good b) {k : Int}

include g in
theorem num_at {n : Nat} {p : List C2} (h : (parted b k)[n]? = some p) {c : C2} (hc : c ∈ p) : num b k c = n := by
  have I := parted_inv (k := k) g
  have nd : ((placesL (parted b k)).map (·.1)).Nodup := by rw [placesL_keys]; have := I.nd; rw [I.fl] at this; exact this
  have hm : (c, n) ∈ placesL (parted b k) := by
    unfold placesL
    rw [foldl_flat (fun q : List C2 × Nat => q.1.map fun x => (x, q.2))]
    rw [List.nil_append, List.mem_flatMap]
    exact ⟨(p, n), by rw [List.mem_zipIdx_iff_getElem?]; exact h, List.mem_map.mpr ⟨c, hc, rfl⟩⟩
  unfold num numAt
  rw [lkC_eqS nd hm]; rfl
include g in
theorem num_ex {c : C2} (hc : ins b c = true) : ∃ n, n < (parted b k).length ∧ num b k c = n ∧ (parted b k)[n]? = some (patch b k c) := by
  obtain ⟨p, hp, hcp⟩ := parted_all (k := k) g hc
  obtain ⟨n, hn, e⟩ := List.getElem_of_mem hp
  have h1 : (parted b k)[n]? = some p := by rw [List.getElem?_eq_getElem hn, e]
  refine ⟨n, hn, num_at g h1 hcp, ?_⟩
  rw [h1, parted_eq g hp hcp]
include g in
theorem num_iff {c : C2} (hc : ins b c = true) {n : Nat} (hn : n < (parted b k).length) : num b k c = n ↔ c ∈ pat b k n := by
  have h1 : (parted b k)[n]? = some (pat b k n) := by unfold pat; rw [List.getD_eq_getElem?_getD, List.getElem?_eq_getElem hn]; rfl
  constructor
  · intro e
    obtain ⟨m, hm, e2, e3⟩ := num_ex g (k := k) hc
    have : m = n := by omega
    subst this
    rw [h1] at e3
    rw [Option.some.inj e3]
    exact patch_mem.mpr (Sm.refl g hc)
  · exact fun h => num_at g h1 h
include g in
theorem num_sm {c d : C2} (hc : ins b c = true) (hd : ins b d = true) : num b k c = num b k d ↔ Sm b k c d := by
  obtain ⟨m, hm, e2, e3⟩ := num_ex g (k := k) hc
  constructor
  · intro e
    have := (num_iff g hd hm).mp (by omega)
    have h1 : pat b k m = patch b k c := by unfold pat; rw [List.getD_eq_getElem?_getD, e3]; rfl
    rw [h1] at this
    exact patch_mem.mp this
  · intro sm
    rw [e2]; exact (num_at g e3 (patch_mem.mpr sm)).symm
noncomputable def crossN (b : Bd) (k : Int) (c : C2) : Nat := ((near b c 4).filter fun d => decide (¬ num b k d = num b k c)).length
def outN (b : Bd) (c : C2) : Nat := ((around c).filter fun d => !ins b d).length
theorem near4 (b : Bd) (c : C2) : near b c 4 = [(c.1 - 1, c.2), (c.1, c.2 - 1), (c.1, c.2 + 1), (c.1 + 1, c.2)].filter (ins b) := by
  unfold near stepsL
  rw [if_neg (by omega)]
  simp only [List.map_cons, List.map_nil, Int.add_zero]
  rfl
include g in
theorem pat_ins {n : Nat} (hn : n < (parted b k).length) {c : C2} (hc : c ∈ pat b k n) : ins b c = true := by
  obtain ⟨d, hd, e⟩ := (parted_inv (k := k) g).ex _ (pat_mem g hn)
  rw [e] at hc; exact Sm.ins g hd (patch_mem.mp hc)
include g in
theorem pat_nodup {n : Nat} (hn : n < (parted b k).length) : (pat b k n).Nodup := by
  obtain ⟨d, hd, e⟩ := (parted_inv (k := k) g).ex _ (pat_mem g hn)
  rw [e]; exact patch_nodup g hd
include g in
theorem open_eq {n : Nat} (hn : n < (parted b k).length) {c : C2} (hc : c ∈ pat b k n) : openN (pat b k n) c = crossN b k c + outN b c := by
  have ci := pat_ins g hn hc
  have cn := (num_iff g ci hn).mpr hc
  have key : ∀ d : C2, (if decide (¬ d ∈ pat b k n) = true then 1 else 0) = (if (decide (¬ num b k d = num b k c) && ins b d) = true then 1 else 0) + (if (!ins b d) = true then 1 else 0) := fun d => by
    cases hd : ins b d with
    | true =>
      have := num_iff g hd hn
      by_cases q : d ∈ pat b k n
      · have e : num b k d = num b k c := by rw [cn]; exact this.mpr q
        simp [q, e]
      · have e : ¬ num b k d = num b k c := fun h => q (this.mp (by rw [h, cn]))
        simp [q, e]
    | false =>
      have q : ¬ d ∈ pat b k n := fun h => by rw [pat_ins g hn h] at hd; cases hd
      simp [q]
  unfold openN crossN outN
  rw [near4, List.filter_filter, filter_len, filter_len, filter_len]
  unfold around
  simp only [List.map_cons, List.map_nil, List.sum_cons, List.sum_nil]
  have k1 := key (c.1 - 1, c.2)
  have k2 := key (c.1 + 1, c.2)
  have k3 := key (c.1, c.2 - 1)
  have k4 := key (c.1, c.2 + 1)
  omega
include g in
theorem sides_eq {n : Nat} (hn : n < (parted b k).length) : sidesN (pat b k n) = ((pat b k n).map (crossN b k)).sum + ((pat b k n).map (outN b)).sum := by
  unfold sidesN
  rw [← sum_add]
  exact sum_congr fun c hc => open_eq g hn hc
theorem out_one {c : C2} (hc : ins b c = true) : outN b c = (if c.1 = 0 then 1 else 0) + (if c.1 = (b.length : Int) - 1 then 1 else 0) + (if c.2 = 0 then 1 else 0) + (if c.2 = (wd b : Int) - 1 then 1 else 0) := by
  obtain ⟨h1, h2, h3, h4⟩ := ins_iff.mp hc
  have e1 : ins b (c.1 - 1, c.2) = decide (¬ c.1 = 0) := by rw [Bool.eq_iff_iff, ins_iff, decide_eq_true_eq]; constructor <;> intro h <;> simp at * <;> omega
  have e2 : ins b (c.1 + 1, c.2) = decide (¬ c.1 = (b.length : Int) - 1) := by rw [Bool.eq_iff_iff, ins_iff, decide_eq_true_eq]; constructor <;> intro h <;> simp at * <;> omega
  have e3 : ins b (c.1, c.2 - 1) = decide (¬ c.2 = 0) := by rw [Bool.eq_iff_iff, ins_iff, decide_eq_true_eq]; constructor <;> intro h <;> simp at * <;> omega
  have e4 : ins b (c.1, c.2 + 1) = decide (¬ c.2 = (wd b : Int) - 1) := by rw [Bool.eq_iff_iff, ins_iff, decide_eq_true_eq]; constructor <;> intro h <;> simp at * <;> omega
  unfold outN around
  rw [filter_len]
  simp only [List.map_cons, List.map_nil, List.sum_cons, List.sum_nil, e1, e2, e3, e4]
  have kk : ∀ (P : Prop) [Decidable P], (if (!decide (¬ P)) = true then 1 else 0 : Nat) = if P then 1 else 0 := by
    intro P _
    by_cases h : P <;> simp [h]
  simp only [kk, Nat.add_zero, Nat.add_assoc]
theorem out_sum : ∀ (l : List C2), (∀ c ∈ l, ins b c = true) → (l.map (outN b)).sum = (l.map (·.1)).count 0 + (l.map (·.1)).count ((b.length : Int) - 1) + (l.map (·.2)).count 0 + (l.map (·.2)).count ((wd b : Int) - 1)
  | [], _ => rfl
  | c :: l, h => by
    have ih := out_sum l fun x hx => h x (List.mem_cons_of_mem _ hx)
    rw [List.map_cons, List.sum_cons, ih, out_one (h c List.mem_cons_self)]
    simp only [List.map_cons, List.count_cons, beq_iff_eq]
    omega
theorem near_nodup (b : Bd) (c : C2) : (near b c 4).Nodup := by
  rw [near4]
  refine List.Pairwise.filter _ ?_
  simp
  omega
theorem swapS (b : Bd) (R : C2 → C2 → Bool) : ((allC b).map fun c => ((near b c 4).filter (R c)).length).sum = ((allC b).map fun d => ((near b d 4).filter fun c => R c d).length).sum := by
  have one : ∀ c (Q : C2 → Bool), ((near b c 4).filter Q).length = ((allC b).map fun d => if (decide (d ∈ near b c 4) && Q d) = true then 1 else 0).sum := fun c Q => by
    rw [← filter_len]
    refine ((List.perm_ext_iff_of_nodup ((near_nodup b c).filter _) ((allC_nodup b).filter _)).mpr fun d => ?_).length_eq
    rw [List.mem_filter, List.mem_filter]
    constructor
    · rintro ⟨h1, h2⟩; exact ⟨allC_mem.mpr (near_ins h1), by simp [h1, h2]⟩
    · rintro ⟨_, h2⟩; simpa using h2
  rw [sum_congr fun c _ => one c (R c), sum_swap, sum_congr fun d _ => one d (fun c => R c d)]
  refine sum_congr fun d hd => sum_congr fun c hc => ?_
  have e : decide (d ∈ near b c 4) = decide (c ∈ near b d 4) := by
    by_cases q : d ∈ near b c 4
    · rw [decide_eq_true q, decide_eq_true (near_symm (allC_mem.mp hc) q)]
    · rw [decide_eq_false q, decide_eq_false fun h => q (near_symm (allC_mem.mp hd) h)]
  rw [e]
/-- sides shared with others -/
noncomputable def withN (b : Bd) (k : Int) (n : Nat) : Nat := ((pairsT b k).filter fun p => decide ((n : Int) = p.1 ∨ (n : Int) = p.2)).length
include g in
theorem with_eq {n : Nat} (hn : n < (parted b k).length) : withN b k n = ((pat b k n).map (crossN b k)).sum := by
  unfold withN pairsT
  rw [filter_flatMap, len_flatMap]
  have e1 : ∀ c, ((rowT b k c).filter fun p => decide ((n : Int) = p.1 ∨ (n : Int) = p.2)).length = ((near b c 4).filter fun d => decide (num b k c = n ∧ (n : Int) < num b k d)).length + ((near b c 4).filter fun d => decide (num b k d = n ∧ num b k c < n)).length := fun c => by
    unfold rowT
    rw [List.filter_map, List.length_map, List.filter_filter, filter_len, filter_len, filter_len, ← sum_add]
    refine sum_congr fun d _ => ?_
    show (if (decide ((n : Int) = num b k c ∨ (n : Int) = num b k d) && decide (num b k c < num b k d)) = true then 1 else 0) = _
    by_cases c1 : num b k c = n
    · by_cases c2 : (n : Int) < num b k d
      · have c3 : ¬ (num b k d = n ∧ num b k c < n) := by omega
        have c4 : num b k c < num b k d := by omega
        simp [c1, c2]
      · have c3 : ¬ (num b k c < num b k d) := by omega
        have c4 : ¬ (num b k c < n) := by omega
        simp [c2, c3, c4]
    · by_cases c2 : num b k d = n
      · by_cases c3 : num b k c < n
        · have c4 : num b k c < num b k d := by omega
          simp [c1, c2, c3]
        · have c4 : ¬ (num b k c < num b k d) := by omega
          simp [c1, c3, c4]
      · have c3 : ¬ ((n : Int) = num b k c ∨ (n : Int) = num b k d) := by omega
        simp [c1, c2, c3]
  rw [sum_congr fun c _ => e1 c, sum_add, swapS b (fun c d => decide (num b k d = n ∧ num b k c < n)), ← sum_add]
  have e2 : ∀ c ∈ allC b, ((near b c 4).filter fun d => decide (num b k c = n ∧ (n : Int) < num b k d)).length + ((near b c 4).filter fun d => decide (num b k c = n ∧ num b k d < n)).length = if decide (num b k c = n) = true then crossN b k c else 0 := fun c _ => by
    unfold crossN
    rw [filter_len, filter_len, ← sum_add]
    by_cases c1 : num b k c = n
    · rw [if_pos (by simpa using c1), filter_len]
      refine sum_congr fun d _ => ?_
      rcases (show num b k d < n ∨ num b k d = n ∨ (n : Int) < num b k d by omega) with h | h | h
      · have h1 : ¬ ((n : Int) < num b k d) := by omega
        have h2 : ¬ (num b k d = n) := by omega
        simp [c1, h, h1, h2]
      · simp [c1, h]
      · have h1 : ¬ (num b k d < n) := by omega
        have h2 : ¬ (num b k d = n) := by omega
        simp [c1, h, h1, h2]
    · rw [if_neg (by simpa using c1)]
      exact sum_zero fun d _ => by simp [c1]
  rw [sum_congr e2, ← sum_filter]
  refine sum_perm (List.Perm.map _ ?_)
  refine (List.perm_ext_iff_of_nodup ((allC_nodup b).filter _) (pat_nodup g hn)).mpr fun c => ?_
  rw [List.mem_filter]
  constructor
  · rintro ⟨h1, h2⟩; exact (num_iff g (allC_mem.mp h1) hn).mp (by simpa using h2)
  · intro h; exact ⟨allC_mem.mpr (pat_ins g hn h), by simpa using (num_iff g (pat_ins g hn h) hn).mpr h⟩
include g in
theorem rim_eq {n : Nat} (hn : n < (parted b k).length) : sidesN (pat b k n) = withN b k n + (((pat b k n).map (·.1)).count 0 + ((pat b k n).map (·.1)).count ((b.length : Int) - 1) + ((pat b k n).map (·.2)).count 0 + ((pat b k n).map (·.2)).count ((wd b : Int) - 1)) := by
  rw [sides_eq g hn, with_eq g hn, out_sum _ fun c hc => pat_ins g hn hc]
theorem cross_two (b : Bd) (k : Int) : 2 * (pairsT b k).length = ((allC b).map (crossN b k)).sum := by
  have e0 : (pairsT b k).length = ((allC b).map fun c => ((near b c 4).filter fun d => decide (num b k c < num b k d)).length).sum := by
    unfold pairsT
    rw [len_flatMap]
    exact sum_congr fun c _ => by unfold rowT; rw [List.length_map]
  have e1 := swapS b (fun c d => decide (num b k c < num b k d))
  have e2 : ((allC b).map (crossN b k)).sum = ((allC b).map fun c => ((near b c 4).filter fun d => decide (num b k c < num b k d)).length).sum + ((allC b).map fun c => ((near b c 4).filter fun d => decide (num b k d < num b k c)).length).sum := by
    rw [← sum_add]
    refine sum_congr fun c _ => ?_
    unfold crossN
    rw [filter_len, filter_len, filter_len, ← sum_add]
    refine sum_congr fun d _ => ?_
    rcases (show num b k d < num b k c ∨ num b k d = num b k c ∨ num b k c < num b k d by omega) with h | h | h
    · have h1 : ¬ (num b k c < num b k d) := by omega
      have h2 : ¬ (num b k d = num b k c) := by omega
      simp [h, h1, h2]
    · simp [h]
    · have h1 : ¬ (num b k d < num b k c) := by omega
      have h2 : ¬ (num b k d = num b k c) := by omega
      simp [h, h1, h2]
  omega
end
/-! ### the same on a board whose cells lie elsewhere -/
section

variable {b t : Bd} {k : Int} {φ ψ : C2 → C2} (g : Good b) (gt : Good t) (I : Iso b t k φ ψ) (I4 : Iso b t 4 φ ψ)

include g gt I I4 in
theorem pairs_iso : (pairsT t k).length = (pairsT b k).length := by
  have h1 := cross_two b k
  have h2 := cross_two t k
  have e : ((allC t).map (crossN t k)).sum = ((allC b).map (crossN b k)).sum := by
    rw [← sum_perm ((I.all).map (crossN t k)), List.map_map]
    refine sum_congr fun c hc => ?_
    have ci := allC_mem.mp hc
    show crossN t k (φ c) = crossN b k c
    unfold crossN
    have hp : ((near b c 4).map φ).Perm (near t (φ c) 4) := by
      refine (List.perm_ext_iff_of_nodup (nodup_map_on (near_nodup b c) fun x _ y _ e => inj_of I.pf x y e) (near_nodup t _)).mpr fun d => ?_
      rw [List.mem_map]
      constructor
      · rintro ⟨x, hx, rfl⟩; exact I4.n1 c x ci hx
      · intro h
        refine ⟨ψ d, ?_, I4.fp d⟩
        have := I4.n2 (φ c) d (I.i1 c ci) h
        rwa [I.pf] at this
    rw [← (hp.filter _).length_eq, List.filter_map, List.length_map]
    congr 1
    refine List.filter_congr fun d hd => ?_
    have di := near_ins hd
    show decide (¬ num t k (φ d) = num t k (φ c)) = decide (¬ num b k d = num b k c)
    have e1 := num_sm gt (k := k) (I.i1 d di) (I.i1 c ci)
    have e2 := num_sm g (k := k) di ci
    exact decide_eq_decide.mpr (not_congr ⟨fun z => e2.mpr (I.sm2 g gt di (e1.mp z)), fun q => e1.mpr (I.sm1 g gt di (e2.mp q))⟩)
  omega
/-- rims and sizes of all patches -/
noncomputable def rimsL (b : Bd) (k : Int) : List C2 := (parted b k).map fun p => ((sidesN p : Int), (p.length : Int))
theorem sidesN_perm {l m : List C2} (p : l.Perm m) : sidesN l = sidesN m := by
  unfold sidesN
  have e : openN l = openN m := by
    funext c
    unfold openN
    congr 1
    refine List.filter_congr fun d _ => ?_
    exact decide_eq_decide.mpr (not_congr p.mem_iff)
  rw [e]
  exact sum_perm (p.map _)
theorem sidesN_map (pf : ∀ x, ψ (φ x) = x) (har : ∀ c, (around (φ c)).Perm ((around c).map φ)) (l : List C2) : sidesN (l.map φ) = sidesN l := by
  unfold sidesN
  rw [List.map_map]
  refine sum_congr fun c _ => ?_
  show openN (l.map φ) (φ c) = openN l c
  unfold openN
  rw [((har c).filter _).length_eq, List.filter_map, List.length_map]
  congr 1
  refine List.filter_congr fun d _ => ?_
  show decide (¬ φ d ∈ l.map φ) = decide (¬ d ∈ l)
  exact decide_eq_decide.mpr (not_congr ⟨fun z => by obtain ⟨x, hx, e⟩ := List.mem_map.mp z; exact inj_of pf _ _ e ▸ hx, fun q => List.mem_map_of_mem q⟩)
include g gt I in
theorem rims_iso (har : ∀ c, (around (φ c)).Perm ((around c).map φ)) : (rimsL t k).Perm (rimsL b k) ∧ (parted t k).length = (parted b k).length := by
  obtain ⟨ρ, h1, h2⟩ := I.perm g gt
  have e1 : rimsL t k = (firsts t k).map fun c => ((sidesN (patch t k c) : Int), ((patch t k c).length : Int)) := by unfold rimsL; rw [parted_form gt, List.map_map]; rfl
  have e2 : rimsL b k = (firsts b k).map fun c => ((sidesN (patch b k c) : Int), ((patch b k c).length : Int)) := by unfold rimsL; rw [parted_form g, List.map_map]; rfl
  constructor
  · rw [e1, e2]
    refine ((h1.map _).symm).trans ?_
    rw [List.map_map]
    refine List.Perm.of_eq (List.map_congr_left fun c hc => ?_)
    have hp := h2 c hc
    show ((sidesN (patch t k (ρ c)) : Int), ((patch t k (ρ c)).length : Int)) = _
    rw [sidesN_perm hp, sidesN_map I.pf har, hp.length_eq, List.length_map]
  · rw [parted_len gt, parted_len g, ← h1.length_eq, List.length_map]
end

theorem turn_around (b : Bd) (c : C2) : (around (tuφ b c)).Perm ((around c).map (tuφ b)) := by
  have e1 : around (tuφ b c) = [(c.2 - 1, (b.length : Int) - 1 - c.1), (c.2 + 1, (b.length : Int) - 1 - c.1), (c.2, (b.length : Int) - 1 - c.1 - 1), (c.2, (b.length : Int) - 1 - c.1 + 1)] := rfl
  have e2 : (around c).map (tuφ b) = [(c.2, (b.length : Int) - 1 - (c.1 - 1)), (c.2, (b.length : Int) - 1 - (c.1 + 1)), (c.2 - 1, (b.length : Int) - 1 - c.1), (c.2 + 1, (b.length : Int) - 1 - c.1)] := rfl
  rw [e1, e2, show (b.length : Int) - 1 - (c.1 - 1) = (b.length : Int) - 1 - c.1 + 1 by omega, show (b.length : Int) - 1 - (c.1 + 1) = (b.length : Int) - 1 - c.1 - 1 by omega]
  generalize (c.2 - 1, (b.length : Int) - 1 - c.1) = x
  generalize (c.2 + 1, (b.length : Int) - 1 - c.1) = y
  generalize (c.2, (b.length : Int) - 1 - c.1 - 1) = u
  generalize (c.2, (b.length : Int) - 1 - c.1 + 1) = v
  have h1 : [x, y, u, v].Perm [x, y, v, u] := .cons _ (.cons _ (.swap _ _ _))
  exact h1.trans (List.perm_append_comm (l₁ := [x, y]) (l₂ := [v, u]))
end Cp



/-! B1: boards as a whole: turned, mirrored, letters. -/
namespace Cp

open L2 PyProof.Rows PySem PySem.Spec Vd Bf

theorem bd_ext {b t : Bd} (g : Good b) (gt : Good t) (hl : t.length = b.length) (hw : wd t = wd b) (h : ∀ c, ins b c = true → Vd.ltr t c = Vd.ltr b c) : t = b := by
  apply List.ext_getElem hl
  intro i h1 h2
  have r1 : (t[i]).length = wd t := gt.row _ (List.getElem_mem h1)
  have r2 : (b[i]).length = wd b := g.row _ (List.getElem_mem h2)
  apply List.ext_getElem (by omega)
  intro j h3 h4
  have := h ((i : Nat), (j : Nat)) (ins_iff.mpr ⟨by simp, by simp; omega, by simp, by simp; omega⟩)
  unfold Vd.ltr at this
  simp only [Int.toNat_natCast] at this
  rw [List.getD_eq_getElem?_getD (l := t), List.getElem?_eq_getElem h1, List.getD_eq_getElem?_getD (l := b), List.getElem?_eq_getElem h2] at this
  simp only [Option.getD_some] at this
  rw [List.getD_eq_getElem?_getD, List.getElem?_eq_getElem h3, List.getD_eq_getElem?_getD, List.getElem?_eq_getElem h4] at this
  exact this
/-- each row the other way round -/
def mirB (b : Bd) : Bd := b.map List.reverse
theorem D_mirrored {b : Bd} (g : Good b) : F_mirrored [wB b] = .ok (wB (mirB b)) := by
  have a1 := g.h8
  simp only [fnSem, rho0, outW_rt, outW_nx, gSeq, Vd.gNil, gDo, gRet, gSet, gOwn, gIf, gAsg, gFrz, gKill, gThenKill, gThenFrz, gApp, gExt, gEx, nLst, fOt, otw, f1, f2, fT, fAnd, fOr, fNot, fAndV, fOrV, fNotV, fIf, fCal, aNil, aCons, fTup, fSl, oNo, oSo, fChain, fV, fO, fC, iVal, iL, setF, setO, nG, tupG, consG, nilG, killAt, frzAt, fzS, nDisp1T, fS1, cYes, unlG, bindok, bindex, bindno, noEx_ok, tb_bv, asDat_dat, asDat_wC, asDat_wI, asDat_bv, asDat_wR, asDat_wS, asDat_wN, pds_nil, pds_dat, pds_wI, pds_wC, pds_wR, pds_bv, asI_I, pAdd_I, pSub_I, pCmp_I, pNeg_I, List.map_cons, List.map_nil, List.length_cons, List.length_nil, List.replicate_succ, List.replicate_zero, List.cons_append, List.nil_append, List.getElem?_cons_zero, List.getElem?_cons_succ, List.getD_cons_zero, List.getD_cons_succ, List.set_cons_zero, List.set_cons_succ, Nat.reduceAdd, Nat.reduceSub, Nat.reduceLT, Nat.reduceLeDiff, Nat.zero_lt_succ, if_true, if_false, Bool.false_eq_true, decide_true, decide_false, Bool.not_true, Bool.not_false, Bool.true_and, Bool.and_true, reduceIte, reduceCtorEq, Bool.true_eq_false, Bool.false_eq_true, not_true_eq_false, not_false_eq_true, fits0, fits1, fits2, fits3, fits4, pLen_B, pLen_Cs, pLen_C, pGet_C0, pGet_C1, pGet_K0, pGet_K1, pGet_Cs0, pEq_I, pEq_C, pEq_Cs, pEq_bl, pIn_Cs, pIn_D, items_Cs, items_B, items_R, F_mirrored, g_mirrored, D_need_board g]
  rw [nLc_all wR b (fun row => pR row.reverse)]
  · have e3 : b.map (fun row => pR row.reverse) = (mirB b).map pR := by unfold mirB; rw [List.map_map]; rfl
    simp only [fnSem, rho0, outW_rt, outW_nx, gSeq, Vd.gNil, gDo, gRet, gSet, gOwn, gIf, gAsg, gFrz, gKill, gThenKill, gThenFrz, gApp, gExt, gEx, nLst, fOt, otw, f1, f2, fT, fAnd, fOr, fNot, fAndV, fOrV, fNotV, fIf, fCal, aNil, aCons, fTup, fSl, oNo, oSo, fChain, fV, fO, fC, iVal, iL, setF, setO, nG, tupG, consG, nilG, killAt, frzAt, fzS, nDisp1T, fS1, cYes, unlG, bindok, bindex, bindno, noEx_ok, tb_bv, asDat_dat, asDat_wC, asDat_wI, asDat_bv, asDat_wR, asDat_wS, asDat_wN, pds_nil, pds_dat, pds_wI, pds_wC, pds_wR, pds_bv, asI_I, pAdd_I, pSub_I, pCmp_I, pNeg_I, List.map_cons, List.map_nil, List.length_cons, List.length_nil, List.replicate_succ, List.replicate_zero, List.cons_append, List.nil_append, List.getElem?_cons_zero, List.getElem?_cons_succ, List.getD_cons_zero, List.getD_cons_succ, List.set_cons_zero, List.set_cons_succ, Nat.reduceAdd, Nat.reduceSub, Nat.reduceLT, Nat.reduceLeDiff, Nat.zero_lt_succ, if_true, if_false, Bool.false_eq_true, decide_true, decide_false, Bool.not_true, Bool.not_false, Bool.true_and, Bool.and_true, reduceIte, reduceCtorEq, Bool.true_eq_false, Bool.false_eq_true, not_true_eq_false, not_false_eq_true, fits0, fits1, fits2, fits3, fits4, pLen_B, pLen_Cs, pLen_C, pGet_C0, pGet_C1, pGet_K0, pGet_K1, pGet_Cs0, pEq_I, pEq_C, pEq_Cs, pEq_bl, pIn_Cs, pIn_D, items_Cs, items_B, items_R, e3, pTuple_R]
  · simp only [fnSem, rho0, outW_rt, outW_nx, gSeq, Vd.gNil, gDo, gRet, gSet, gOwn, gIf, gAsg, gFrz, gKill, gThenKill, gThenFrz, gApp, gExt, gEx, nLst, fOt, otw, f1, f2, fT, fAnd, fOr, fNot, fAndV, fOrV, fNotV, fIf, fCal, aNil, aCons, fTup, fSl, oNo, oSo, fChain, fV, fO, fC, iVal, iL, setF, setO, nG, tupG, consG, nilG, killAt, frzAt, fzS, nDisp1T, fS1, cYes, unlG, bindok, bindex, bindno, noEx_ok, tb_bv, asDat_dat, asDat_wC, asDat_wI, asDat_bv, asDat_wR, asDat_wS, asDat_wN, pds_nil, pds_dat, pds_wI, pds_wC, pds_wR, pds_bv, asI_I, pAdd_I, pSub_I, pCmp_I, pNeg_I, List.map_cons, List.map_nil, List.length_cons, List.length_nil, List.replicate_succ, List.replicate_zero, List.cons_append, List.nil_append, List.getElem?_cons_zero, List.getElem?_cons_succ, List.getD_cons_zero, List.getD_cons_succ, List.set_cons_zero, List.set_cons_succ, Nat.reduceAdd, Nat.reduceSub, Nat.reduceLT, Nat.reduceLeDiff, Nat.zero_lt_succ, if_true, if_false, Bool.false_eq_true, decide_true, decide_false, Bool.not_true, Bool.not_false, Bool.true_and, Bool.and_true, reduceIte, reduceCtorEq, Bool.true_eq_false, Bool.false_eq_true, not_true_eq_false, not_false_eq_true, fits0, fits1, fits2, fits3, fits4, pLen_B, pLen_Cs, pLen_C, pGet_C0, pGet_C1, pGet_K0, pGet_K1, pGet_Cs0, pEq_I, pEq_C, pEq_Cs, pEq_bl, pIn_Cs, pIn_D, items_Cs, items_B, items_R]
  · unfold sizeLine; omega
  · intro row hr
    have := g.rl hr
    refine ⟨_, rfl, rfl, ?_⟩
    simp only [fnSem, rho0, outW_rt, outW_nx, gSeq, Vd.gNil, gDo, gRet, gSet, gOwn, gIf, gAsg, gFrz, gKill, gThenKill, gThenFrz, gApp, gExt, gEx, nLst, fOt, otw, f1, f2, fT, fAnd, fOr, fNot, fAndV, fOrV, fNotV, fIf, fCal, aNil, aCons, fTup, fSl, oNo, oSo, fChain, fV, fO, fC, iVal, iL, setF, setO, nG, tupG, consG, nilG, killAt, frzAt, fzS, nDisp1T, fS1, cYes, unlG, bindok, bindex, bindno, noEx_ok, tb_bv, asDat_dat, asDat_wC, asDat_wI, asDat_bv, asDat_wR, asDat_wS, asDat_wN, pds_nil, pds_dat, pds_wI, pds_wC, pds_wR, pds_bv, asI_I, pAdd_I, pSub_I, pCmp_I, pNeg_I, List.map_cons, List.map_nil, List.length_cons, List.length_nil, List.replicate_succ, List.replicate_zero, List.cons_append, List.nil_append, List.getElem?_cons_zero, List.getElem?_cons_succ, List.getD_cons_zero, List.getD_cons_succ, List.set_cons_zero, List.set_cons_succ, Nat.reduceAdd, Nat.reduceSub, Nat.reduceLT, Nat.reduceLeDiff, Nat.zero_lt_succ, if_true, if_false, Bool.false_eq_true, decide_true, decide_false, Bool.not_true, Bool.not_false, Bool.true_and, Bool.and_true, reduceIte, reduceCtorEq, Bool.true_eq_false, Bool.false_eq_true, not_true_eq_false, not_false_eq_true, fits0, fits1, fits2, fits3, fits4, pLen_B, pLen_Cs, pLen_C, pGet_C0, pGet_C1, pGet_K0, pGet_K1, pGet_Cs0, pEq_I, pEq_C, pEq_Cs, pEq_bl, pIn_Cs, pIn_D, items_Cs, items_B, items_R, pRevA_R row (by omega)]
    rfl
theorem mirB_wd {b : Bd} (g : Good b) : wd (mirB b) = wd b := by
  unfold wd mirB
  rw [List.getD_eq_getElem?_getD, List.getElem?_map, List.getD_eq_getElem?_getD]
  cases h : b[0]? <;> simp
theorem mirB_good {b : Bd} (g : Good b) : Good (mirB b) := by
  have hw := mirB_wd g
  refine ⟨by unfold mirB; rw [List.length_map]; exact g.h1, by unfold mirB; rw [List.length_map]; exact g.h8, by rw [hw]; exact g.w1, by rw [hw]; exact g.w8, fun r hr => ?_, fun r hr c hc => ?_⟩
  · obtain ⟨r0, h0, rfl⟩ := List.mem_map.mp hr
    rw [hw, List.length_reverse]; exact g.row _ h0
  · obtain ⟨r0, h0, rfl⟩ := List.mem_map.mp hr
    exact g.lets _ h0 c (List.mem_reverse.mp hc)
theorem mirB_mirB (b : Bd) : mirB (mirB b) = b := by
  unfold mirB
  rw [List.map_map]
  conv => rhs; rw [← List.map_id b]
  apply List.map_congr_left
  intro r _
  simp
def miφ (b : Bd) (c : C2) : C2 := (c.1, (wd b : Int) - 1 - c.2)
theorem mi_mi (b : Bd) (x : C2) : miφ b (miφ b x) = x := by unfold miφ; exact Prod.ext rfl (by simp; omega)
theorem mi_ltr {b : Bd} (g : Good b) {x : C2} (h : ins b x = true) : Vd.ltr (mirB b) (miφ b x) = Vd.ltr b x := by
  obtain ⟨h1, h2, h3, h4⟩ := ins_iff.mp h
  unfold Vd.ltr mirB miφ
  simp only
  have hr := g.rowLen h1 h2
  rw [List.getD_eq_getElem?_getD (l := b.map _), List.getElem?_map, List.getD_eq_getElem?_getD (l := b), List.getElem?_eq_getElem (by omega)]
  rw [List.getD_eq_getElem?_getD, List.getElem?_eq_getElem (by omega)] at hr
  simp only [Option.map_some, Option.getD_some] at hr ⊢
  rw [List.getD_eq_getElem?_getD, List.getElem?_reverse (by omega), List.getD_eq_getElem?_getD]
  rw [show (b[x.1.toNat]'(by omega)).length - 1 - ((wd b : Int) - 1 - x.2).toNat = x.2.toNat by omega]
theorem mirB_len (b : Bd) : (mirB b).length = b.length := by unfold mirB; rw [List.length_map]
theorem mi_iso {b : Bd} (g : Good b) (k : Int) : Iso b (mirB b) k (miφ b) (miφ b) := by
  have hw := mirB_wd g
  have hl := mirB_len b
  have i1 : ∀ x, Vd.ins b x = true → Vd.ins (mirB b) (miφ b x) = true := fun x h => by
    obtain ⟨h1, h2, h3, h4⟩ := ins_iff.mp h
    exact ins_iff.mpr ⟨h1, by rw [hl]; exact h2, by unfold miφ; simp; omega, by rw [hw]; unfold miφ; simp; omega⟩
  have i2 : ∀ x, Vd.ins (mirB b) x = true → Vd.ins b (miφ b x) = true := fun x h => by
    obtain ⟨h1, h2, h3, h4⟩ := ins_iff.mp h
    rw [hl] at h2
    rw [hw] at h4
    exact ins_iff.mpr ⟨h1, h2, by unfold miφ; simp; omega, by unfold miφ; simp; omega⟩
  have s1 : ∀ s ∈ stepsL k, ((s.1, -s.2) : C2) ∈ stepsL k := by unfold stepsL; split <;> decide
  refine ⟨i1, i2, fun x h => mi_ltr g h, fun x h => ?_, fun x y hx hy => ?_, fun x y hx hy => ?_, mi_mi b, mi_mi b⟩
  · have := mi_ltr g (i2 x h)
    rw [mi_mi] at this; exact this.symm
  · obtain ⟨h1, s, h2, rfl⟩ := near_mem.mp hy
    refine near_mem.mpr ⟨i1 _ h1, _, s1 s h2, ?_⟩
    unfold miφ; exact Prod.ext rfl (by simp; omega)
  · obtain ⟨h1, s, h2, rfl⟩ := near_mem.mp hy
    refine near_mem.mpr ⟨i2 _ h1, _, s1 s h2, ?_⟩
    unfold miφ; exact Prod.ext rfl (by simp; omega)
theorem turn_ins {b : Bd} (g : Good b) {x : C2} (h : ins b x = true) : ins (turnB b) (tuφ b x) = true := (turn_iso g 4).i1 x h
theorem mi_ins {b : Bd} (g : Good b) {x : C2} (h : ins b x = true) : ins (mirB b) (miφ b x) = true := (mi_iso g 4).i1 x h
theorem turn4 {b : Bd} (g : Good b) : turnB (turnB (turnB (turnB b))) = b := by
  have g1 := turnB_good g
  have g2 := turnB_good g1
  have g3 := turnB_good g2
  have g4 := turnB_good g3
  refine bd_ext g g4 ?_ ?_ fun c hc => ?_
  · rw [turnB_len, turnB_wd g2, turnB_len, turnB_wd g]
  · rw [turnB_wd g3, turnB_len, turnB_wd g1, turnB_len]
  · have i1 := turn_ins g hc
    have i2 := turn_ins g1 i1
    have i3 := turn_ins g2 i2
    have e : tuφ (turnB (turnB (turnB b))) (tuφ (turnB (turnB b)) (tuφ (turnB b) (tuφ b c))) = c := by
      unfold tuφ
      simp only [turnB_len, turnB_wd g, turnB_wd g1]
      exact Prod.ext (by simp; omega) (by simp; omega)
    rw [← turn_ltr g hc, ← turn_ltr g1 i1, ← turn_ltr g2 i2, ← turn_ltr g3 i3, e]
theorem turn_mir {b : Bd} (g : Good b) : turnB (mirB (turnB (mirB b))) = b := by
  have g1 := mirB_good g
  have g2 := turnB_good g1
  have g3 := mirB_good g2
  have g4 := turnB_good g3
  refine bd_ext g g4 ?_ ?_ fun c hc => ?_
  · rw [turnB_len, mirB_wd g2, turnB_wd g1, mirB_len]
  · rw [turnB_wd g3, mirB_len, turnB_len, mirB_wd g]
  · have i1 := mi_ins g hc
    have i2 := turn_ins g1 i1
    have i3 := mi_ins g2 i2
    have e : tuφ (mirB (turnB (mirB b))) (miφ (turnB (mirB b)) (tuφ (mirB b) (miφ b c))) = c := by
      unfold tuφ miφ
      simp only [mirB_len, turnB_len, turnB_wd g1, mirB_wd g]
      exact Prod.ext (by simp; omega) (by simp; omega)
    rw [← mi_ltr g hc, ← turn_ltr g1 i1, ← mi_ltr g2 i2, ← turn_ltr g3 i3, e]
/-! ### letters -/
theorem range_getD {α : Type} (d : α) (l : List α) : (List.range l.length).map (fun n => l.getD n d) = l := by
  apply List.ext_getElem
  · simp
  · intro i h1 h2
    simp [List.getD_eq_getElem?_getD, List.getElem?_eq_getElem h2]
theorem flatten_ltr {b : Bd} (g : Good b) : b.flatten = (allC b).map (Vd.ltr b) := by
  unfold allC
  rw [List.map_flatMap]
  have : (List.range b.length).flatMap (fun i => (rowC b i).map (Vd.ltr b)) = (List.range b.length).flatMap (fun i => b.getD i []) := by
    rw [List.flatMap_def, List.flatMap_def]
    congr 1
    apply List.map_congr_left
    intro i hi
    have hi := List.mem_range.mp hi
    have hr : (b.getD i []).length = wd b := by have := g.rowLen (i := (i : Nat)) (by omega) (by omega); simpa using this
    unfold rowC
    rw [List.map_map]
    conv => rhs; rw [← range_getD 0 (b.getD i [])]
    rw [hr]; rfl
  rw [this, List.flatMap_def, range_getD]
theorem flat_perm {b t : Bd} {k : Int} {φ ψ : C2 → C2} (g : Good b) (gt : Good t) (I : Iso b t k φ ψ) : t.flatten.Perm b.flatten := by
  rw [flatten_ltr g, flatten_ltr gt]
  refine ((I.all).map (Vd.ltr t)).symm.trans (List.Perm.of_eq ?_)
  rw [List.map_map]
  exact List.map_congr_left fun c hc => I.l1 c (allC_mem.mp hc)
def lettersL (b : Bd) : List (Nat × Nat) := (srtN b.flatten).map fun c => (c, b.flatten.count c)
def pLt (p : Nat × Nat) : Pd := .tuple [.str (S [p.1]), .int (p.2 : Nat)]
def wLt (l : List (Nat × Nat)) : W := .dat (.list (l.map pLt))
theorem letters_perm {b t : Bd} (p : t.flatten.Perm b.flatten) : lettersL t = lettersL b := by
  unfold lettersL
  have e : srtN t.flatten = srtN b.flatten := lt_list_eq (srtN_lt _) (srtN_lt _) fun c => by rw [srtN_mem, srtN_mem, p.mem_iff]
  rw [e]
  exact List.map_congr_left fun c _ => by rw [p.count_eq]
theorem join_B (l : Bd) : Txt.join (S []) (l.map S) = S l.flatten := by
  rw [TL.join_eq]
  have h : TL.tl (Str.join (S []) (l.map S)) = l.flatten := by
    rw [TL.tl_join, List.map_map]
    induction l with
    | nil => rfl
    | cons a l ih =>
      cases l with
      | nil => show (TL.tl ∘ S) a = _; simp
      | cons c l =>
        show TL.tl (S a) ++ ([] ++ TL.joinL [] (((c :: l).map (TL.tl ∘ S)))) = _
        have ih : TL.joinL [] (((c :: l).map (TL.tl ∘ S))) = (c :: l).flatten := ih
        rw [ih]; rfl
  exact TL.ext_tl h
theorem allS_rows (l : Bd) : allS (l.map pR) = some (l.map S) := by
  induction l with
  | nil => rfl
  | cons a l ih => simp only [List.map_cons]; show (allS (l.map pR)).map _ = _; rw [ih]; rfl
theorem flat_len64 {b : Bd} (g : Good b) : b.flatten.length ≤ 64 := by
  rw [flatten_ltr g, List.length_map]; exact allC_len g
theorem sumS (l : Bd) : ((l.map S).map (·.length)).sum = l.flatten.length := by
  rw [List.length_flatten, List.map_map]; rfl
theorem pJoin_B {b : Bd} (g : Good b) : pJoin (S []) (wB b) = .ok (wS b.flatten) := by
  have e : (seqD (wB b)).bind allS = some (b.map S) := allS_rows b
  unfold pJoin
  rw [e]
  have h := flat_len64 g
  have h8 := g.h8
  show (if _ then _ else _) = _
  rw [if_pos (by rw [sumS]; show _ + (b.map S).length * 0 ≤ _; omega), join_B]; rfl
theorem D_letters {b : Bd} (g : Good b) (h : b.flatten.length < 64) : F_letters [wB b] = .ok (wLt (lettersL b)) := by
  have sa : ∀ l : List Nat, strA (wS l) = some (S l) := fun _ => rfl
  simp only [fnSem, rho0, outW_rt, outW_nx, gSeq, Vd.gNil, gDo, gRet, gSet, gOwn, gIf, gAsg, gFrz, gKill, gThenKill, gThenFrz, gApp, gExt, gEx, nLst, fOt, otw, f1, f2, fT, fAnd, fOr, fNot, fAndV, fOrV, fNotV, fIf, fCal, aNil, aCons, fTup, fSl, oNo, oSo, fChain, fV, fO, fC, iVal, iL, setF, setO, nG, tupG, consG, nilG, killAt, frzAt, fzS, nDisp1T, fS1, cYes, unlG, bindok, bindex, bindno, noEx_ok, tb_bv, asDat_dat, asDat_wC, asDat_wI, asDat_bv, asDat_wR, asDat_wS, asDat_wN, pds_nil, pds_dat, pds_wI, pds_wC, pds_wR, pds_bv, asI_I, pAdd_I, pSub_I, pCmp_I, pNeg_I, List.map_cons, List.map_nil, List.length_cons, List.length_nil, List.replicate_succ, List.replicate_zero, List.cons_append, List.nil_append, List.getElem?_cons_zero, List.getElem?_cons_succ, List.getD_cons_zero, List.getD_cons_succ, List.set_cons_zero, List.set_cons_succ, Nat.reduceAdd, Nat.reduceSub, Nat.reduceLT, Nat.reduceLeDiff, Nat.zero_lt_succ, if_true, if_false, Bool.false_eq_true, decide_true, decide_false, Bool.not_true, Bool.not_false, Bool.true_and, Bool.and_true, reduceIte, reduceCtorEq, Bool.true_eq_false, Bool.false_eq_true, not_true_eq_false, not_false_eq_true, fits0, fits1, fits2, fits3, fits4, pLen_B, pLen_Cs, pLen_C, pGet_C0, pGet_C1, pGet_K0, pGet_K1, pGet_Cs0, pEq_I, pEq_C, pEq_Cs, pEq_bl, pIn_Cs, pIn_D, items_Cs, items_B, items_R, F_letters, g_letters, D_need_board g, sa, pJoin_B g]
  rw [nLc_all (fun c : Nat => wS [c]) (srtN b.flatten) (fun c => pLt (c, b.flatten.count c))]
  rotate_left
  · simp only [fnSem, rho0, outW_rt, outW_nx, gSeq, Vd.gNil, gDo, gRet, gSet, gOwn, gIf, gAsg, gFrz, gKill, gThenKill, gThenFrz, gApp, gExt, gEx, nLst, fOt, otw, f1, f2, fT, fAnd, fOr, fNot, fAndV, fOrV, fNotV, fIf, fCal, aNil, aCons, fTup, fSl, oNo, oSo, fChain, fV, fO, fC, iVal, iL, setF, setO, nG, tupG, consG, nilG, killAt, frzAt, fzS, nDisp1T, fS1, cYes, unlG, bindok, bindex, bindno, noEx_ok, tb_bv, asDat_dat, asDat_wC, asDat_wI, asDat_bv, asDat_wR, asDat_wS, asDat_wN, pds_nil, pds_dat, pds_wI, pds_wC, pds_wR, pds_bv, asI_I, pAdd_I, pSub_I, pCmp_I, pNeg_I, List.map_cons, List.map_nil, List.length_cons, List.length_nil, List.replicate_succ, List.replicate_zero, List.cons_append, List.nil_append, List.getElem?_cons_zero, List.getElem?_cons_succ, List.getD_cons_zero, List.getD_cons_succ, List.set_cons_zero, List.set_cons_succ, Nat.reduceAdd, Nat.reduceSub, Nat.reduceLT, Nat.reduceLeDiff, Nat.zero_lt_succ, if_true, if_false, Bool.false_eq_true, decide_true, decide_false, Bool.not_true, Bool.not_false, Bool.true_and, Bool.and_true, reduceIte, reduceCtorEq, Bool.true_eq_false, Bool.false_eq_true, not_true_eq_false, not_false_eq_true, fits0, fits1, fits2, fits3, fits4, pLen_B, pLen_Cs, pLen_C, pGet_C0, pGet_C1, pGet_K0, pGet_K1, pGet_Cs0, pEq_I, pEq_C, pEq_Cs, pEq_bl, pIn_Cs, pIn_D, items_Cs, items_B, items_R, pSrtTxt_S _ h]
    simp only [items, List.map_map]; rfl
  · have := Bf.nodup_le (srtN_nodup b.flatten) (m := b.flatten) fun c hc => srtN_mem.mp hc
    unfold sizeLine; omega
  · intro c hc
    refine ⟨_, rfl, rfl, ?_⟩
    simp only [fnSem, rho0, outW_rt, outW_nx, gSeq, Vd.gNil, gDo, gRet, gSet, gOwn, gIf, gAsg, gFrz, gKill, gThenKill, gThenFrz, gApp, gExt, gEx, nLst, fOt, otw, f1, f2, fT, fAnd, fOr, fNot, fAndV, fOrV, fNotV, fIf, fCal, aNil, aCons, fTup, fSl, oNo, oSo, fChain, fV, fO, fC, iVal, iL, setF, setO, nG, tupG, consG, nilG, killAt, frzAt, fzS, nDisp1T, fS1, cYes, unlG, bindok, bindex, bindno, noEx_ok, tb_bv, asDat_dat, asDat_wC, asDat_wI, asDat_bv, asDat_wR, asDat_wS, asDat_wN, pds_nil, pds_dat, pds_wI, pds_wC, pds_wR, pds_bv, asI_I, pAdd_I, pSub_I, pCmp_I, pNeg_I, List.map_cons, List.map_nil, List.length_cons, List.length_nil, List.replicate_succ, List.replicate_zero, List.cons_append, List.nil_append, List.getElem?_cons_zero, List.getElem?_cons_succ, List.getD_cons_zero, List.getD_cons_succ, List.set_cons_zero, List.set_cons_succ, Nat.reduceAdd, Nat.reduceSub, Nat.reduceLT, Nat.reduceLeDiff, Nat.zero_lt_succ, if_true, if_false, Bool.false_eq_true, decide_true, decide_false, Bool.not_true, Bool.not_false, Bool.true_and, Bool.and_true, reduceIte, reduceCtorEq, Bool.true_eq_false, Bool.false_eq_true, not_true_eq_false, not_false_eq_true, fits0, fits1, fits2, fits3, fits4, pLen_B, pLen_Cs, pLen_C, pGet_C0, pGet_C1, pGet_K0, pGet_K1, pGet_Cs0, pEq_I, pEq_C, pEq_Cs, pEq_bl, pIn_Cs, pIn_D, items_Cs, items_B, items_R, sa, pCount_S, pds_wS]
    rfl
  simp only [fnSem, rho0, outW_rt, outW_nx, gSeq, Vd.gNil, gDo, gRet, gSet, gOwn, gIf, gAsg, gFrz, gKill, gThenKill, gThenFrz, gApp, gExt, gEx, nLst, fOt, otw, f1, f2, fT, fAnd, fOr, fNot, fAndV, fOrV, fNotV, fIf, fCal, aNil, aCons, fTup, fSl, oNo, oSo, fChain, fV, fO, fC, iVal, iL, setF, setO, nG, tupG, consG, nilG, killAt, frzAt, fzS, nDisp1T, fS1, cYes, unlG, bindok, bindex, bindno, noEx_ok, tb_bv, asDat_dat, asDat_wC, asDat_wI, asDat_bv, asDat_wR, asDat_wS, asDat_wN, pds_nil, pds_dat, pds_wI, pds_wC, pds_wR, pds_bv, asI_I, pAdd_I, pSub_I, pCmp_I, pNeg_I, List.map_cons, List.map_nil, List.length_cons, List.length_nil, List.replicate_succ, List.replicate_zero, List.cons_append, List.nil_append, List.getElem?_cons_zero, List.getElem?_cons_succ, List.getD_cons_zero, List.getD_cons_succ, List.set_cons_zero, List.set_cons_succ, Nat.reduceAdd, Nat.reduceSub, Nat.reduceLT, Nat.reduceLeDiff, Nat.zero_lt_succ, if_true, if_false, Bool.false_eq_true, decide_true, decide_false, Bool.not_true, Bool.not_false, Bool.true_and, Bool.and_true, reduceIte, reduceCtorEq, Bool.true_eq_false, Bool.false_eq_true, not_true_eq_false, not_false_eq_true, fits0, fits1, fits2, fits3, fits4, pLen_B, pLen_Cs, pLen_C, pGet_C0, pGet_C1, pGet_K0, pGet_K1, pGet_Cs0, pEq_I, pEq_C, pEq_Cs, pEq_bl, pIn_Cs, pIn_D, items_Cs, items_B, items_R]
  unfold wLt lettersL
  rw [List.map_map]; rfl
end Cp




/-! So: numbers sorted. -/
namespace Cp

open L2 PyProof.Rows PySem PySem.Spec Vd Bf
/-! ### numbers sorted -/
theorem leI (a b : Int) : leD (.int a) (.int b) = !decide (b < a) := by
  show (!PySem.W.dataLt (.int b) (.int a)) = _
  rw [PySem.W.dataLt_int]
noncomputable def srtI (l : List Int) : List Int := l.mergeSort fun a b => leD (.int a) (.int b)
theorem srtI_eq : ∀ {l m : List Int}, l.Pairwise (fun a b => leD (.int a) (.int b) = true) → m.Pairwise (fun a b => leD (.int a) (.int b) = true) → l.Perm m → l = m
  | [], m, _, _, p => by rw [List.nil_perm] at p; exact p.symm
  | a :: l, m, h1, h2, p => by
    cases m with
    | nil => exact absurd p.length_eq (by simp)
    | cons b m =>
      rw [List.pairwise_cons] at h1 h2
      have e : a = b := by
        rcases List.mem_cons.mp (p.mem_iff.mp List.mem_cons_self) with q | q
        · exact q
        · rcases List.mem_cons.mp (p.mem_iff.mpr List.mem_cons_self) with q2 | q2
          · exact q2.symm
          · have z1 := h1.1 b q2
            have z2 := h2.1 a q
            rw [leI] at z1 z2
            simp at z1 z2; omega
      subst e
      rw [srtI_eq h1.2 h2.2 (List.perm_cons a |>.mp p)]
theorem srtI_sorted (l : List Int) : (srtI l).Pairwise (fun a b => leD (.int a) (.int b) = true) :=
  List.pairwise_mergeSort (fun a b c h k => by rw [leI] at *; simp at *; omega) (fun a b => by rw [leI, leI]; simp; omega) l
theorem srtI_perm {l m : List Int} (p : l.Perm m) : srtI l = srtI m := srtI_eq (srtI_sorted l) (srtI_sorted m) (((List.mergeSort_perm l _).trans p).trans (List.mergeSort_perm m _).symm)
theorem pSorted_Is (l : List Int) (h : l.length ≤ sizeLine) : pSorted [wIs l] = .ok (wIs (srtI l)) := by
  have ok : okS (l.map PyData.int) := by
    refine ⟨fun d hd d' hd' => ?_, .inr fun d hd => ?_, fun d hd => ?_, by rw [List.length_map]; exact h⟩
    · obtain ⟨c, _, rfl⟩ := List.mem_map.mp hd
      obtain ⟨c', _, rfl⟩ := List.mem_map.mp hd'
      rfl
    · obtain ⟨c, _, rfl⟩ := List.mem_map.mp hd
      exact ⟨by simp, by simp⟩
    · obtain ⟨c, _, rfl⟩ := List.mem_map.mp hd
      simp [PyData.depth]
  have e : sortD (l.map PyData.int) = (srtI l).map PyData.int := by
    unfold sortD srtI
    rw [List.map_mergeSort]
    intro a _ b _; rfl
  show (if okS (l.map PyData.int) then R.ok (W.dat (.list (sortD (l.map PyData.int)))) else .no) = _
  rw [if_pos ok, e]; rfl
end Cp




/-! Lb: the drawn board's size and letters; the drawn ways. -/
namespace Cp

open L2 PyProof.Rows PySem PySem.Spec Vd Bf

theorem lawBoard_len (xs : List Int) (at_ : Int) {most : Int} (hm : 1 ≤ most) : (lawBoard xs at_ most).length ≤ most.toNat ∧ wd (lawBoard xs at_ most) ≤ most.toNat := by
  have d1 := drawn_bd xs at_ (show 0 < most by omega)
  have d2 := drawn_bd xs (at_ + 1) (show 0 < most by omega)
  have hw : wd (lawBoard xs at_ most) = (1 + drawn xs (at_ + 1) most).toNat := by
    unfold wd lawBoard
    rw [List.getD_eq_getElem?_getD, List.getElem?_map, List.getElem?_range (by omega)]
    simp [lawRow]
  have hl : (lawBoard xs at_ most).length = (1 + drawn xs at_ most).toNat := by unfold lawBoard; simp
  omega
theorem lawBoard_lets (xs : List Int) (at_ : Int) {most : Int} (hm : 1 ≤ most) : ∀ r ∈ lawBoard xs at_ most, ∀ c ∈ r, c ∈ [97, 98, 99, 102] := by
  intro r hr c hc
  obtain ⟨i, _, rfl⟩ := List.mem_map.mp hr
  obtain ⟨j, _, rfl⟩ := List.mem_map.mp hc
  have hp := alpha_len xs at_
  have := drawn_bd xs (at_ + 3 + 7 * i + j) (show 0 < ((lawAlpha xs at_).length : Int) by omega)
  have h : ∀ c ∈ lawAlpha xs at_, c ∈ [97, 98, 99, 102] := by
    have := alpha_ok xs at_
    simp only [alphas, List.mem_cons, List.not_mem_nil, or_false] at this
    rcases this with h | h | h | h <;> rw [h] <;> decide
  refine h _ ?_
  rw [List.getD_eq_getElem?_getD, List.getElem?_eq_getElem (by omega)]
  exact List.getElem_mem _
theorem ltr_of {b : Bd} (g : Good b) {P : Nat → Prop} (h : ∀ r ∈ b, ∀ c ∈ r, P c) {c : C2} (hc : ins b c = true) : P (Vd.ltr b c) := by
  obtain ⟨h1, h2, h3, h4⟩ := ins_iff.mp hc
  refine h _ (g.getRow h1 h2) _ ?_
  have := g.rowLen h1 h2
  unfold Vd.ltr
  rw [List.getD_eq_getElem?_getD (l := b.getD _ _), List.getElem?_eq_getElem (by omega)]; exact List.getElem_mem _
theorem ways_of (xs : List Int) (n : Int) : ∃ k : Int, (k = 4 ∨ k = 8) ∧ pGet (.dat (.list [.int 4, .int 8])) (wI (drawn xs n 2)) = .ok (wI k) := by
  have hd := drawn_bd xs n (show (0 : Int) < 2 by omega)
  rcases (show drawn xs n 2 = 0 ∨ drawn xs n 2 = 1 by omega) with h | h <;> rw [h]
  · exact ⟨4, .inl rfl, rfl⟩
  · exact ⟨8, .inr rfl, rfl⟩
end Cp




/-! Pn: rows of patches, numbers of cells. -/
namespace Cp

open L2 PyProof.Rows PySem PySem.Spec Vd Bf

theorem pEq_Ps (n : Bool) (l m : List (List C2)) : pEq n (wPs l) (wPs m) = .ok (bv (if n = true then decide (¬ l = m) else decide (l = m))) := pEq_mk (sh_mk (lay_Ps l) (show (PyData.list (l.map pCs)).depth ≤ 64 by have := dep_Ps l; omega)) (sh_mk (lay_Ps m) (show (PyData.list (m.map pCs)).depth ≤ 64 by have := dep_Ps m; omega)) (by exact eqv_Ps l m)
theorem pEq_Css (n : Bool) (l m : List C2) : pEq n (wCs l) (wCs m) = .ok (bv (if n = true then decide (¬ l = m) else decide (l = m))) := pEq_Cs n l m
def rowNum (b : Bd) (f : C2 → Nat) (i : Int) : Pd := .list ((List.range (wd b)).map fun j : Nat => .int (f (i, (j : Int)) : Nat))
theorem pGet_num1 {b : Bd} (f : C2 → Nat) {i : Int} (h1 : 0 ≤ i) (h2 : i < (b.length : Int)) : pGet (wNum b f) (wI i) = .ok (.dat (rowNum b f i)) := by
  show optW .dat (atI ((List.range b.length).map fun i : Nat => PyData.list ((List.range (wd b)).map fun j : Nat => .int (f ((i : Int), (j : Int)) : Nat))) i) = _
  rw [atI_pos h1 (by simpa using h2), List.getElem?_map, List.getElem?_range (by omega)]
  have e : ((i.toNat : Nat) : Int) = i := Int.toNat_of_nonneg h1
  show R.ok (W.dat (PyData.list ((List.range (wd b)).map fun j : Nat => .int (f (((i.toNat : Nat) : Int), (j : Int)) : Nat)))) = _
  rw [e]; rfl
theorem pGet_num2 {b : Bd} (f : C2 → Nat) (i : Int) {j : Int} (h3 : 0 ≤ j) (h4 : j < (wd b : Int)) : pGet (.dat (rowNum b f i)) (wI j) = .ok (wI (f (i, j) : Nat)) := by
  show optW .dat (atI ((List.range (wd b)).map fun j : Nat => PyData.int (f (i, (j : Int)) : Nat)) j) = _
  rw [atI_pos h3 (by simpa using h4), List.getElem?_map, List.getElem?_range (by omega)]
  have e : ((j.toNat : Nat) : Int) = j := Int.toNat_of_nonneg h3
  show R.ok (wI (f (i, ((j.toNat : Nat) : Int)) : Nat)) = _
  rw [e]
theorem wNum_rows (b : Bd) (f : C2 → Nat) : wNum b f = .dat (.list ((List.range b.length).map fun i : Nat => rowNum b f i)) := rfl
theorem pLen_num (b : Bd) (f : C2 → Nat) : pLen [wNum b f] = .ok (wI b.length) := by simp [pLen, wNum]
theorem pLen_rowNum (b : Bd) (f : C2 → Nat) (i : Int) : pLen [.dat (rowNum b f i)] = .ok (wI (wd b)) := by simp [pLen, rowNum]
end Cp




/-! L12: the law k12 answers True. -/
namespace Cp

open L2 PyProof.Rows PySem PySem.Spec Vd Bf

theorem items_Ps (ps : List (List C2)) : items (wPs ps) = .ok (ps.map wCs) := by simp only [items, wPs, pPs, List.map_map]; rfl
theorem pGet_num {b : Bd} (f : C2 → Nat) {c : C2} (h : ins b c = true) : ((pGet (wNum b f) (wI c.1)).bind fun r => pGet r (wI c.2)) = .ok (wI (f c)) := by
  obtain ⟨h1, h2, h3, h4⟩ := ins_iff.mp h
  have e1 : pGet (wNum b f) (wI c.1) = .ok (.dat (.list ((List.range (wd b)).map fun j : Nat => .int (f (c.1, (j : Int)) : Nat)))) := by
    show optW .dat (atI ((List.range b.length).map fun i : Nat => PyData.list ((List.range (wd b)).map fun j : Nat => .int (f ((i : Int), (j : Int)) : Nat))) c.1) = _
    rw [atI_pos h1 (by simpa using h2), List.getElem?_map, List.getElem?_range (by omega)]
    have e : ((c.1.toNat : Nat) : Int) = c.1 := Int.toNat_of_nonneg h1
    show R.ok (W.dat (PyData.list ((List.range (wd b)).map fun j : Nat => .int (f (((c.1.toNat : Nat) : Int), (j : Int)) : Nat)))) = _
    rw [e]
  rw [e1, bindok]
  show optW .dat (atI ((List.range (wd b)).map fun j : Nat => PyData.int (f (c.1, (j : Int)) : Nat)) c.2) = _
  rw [atI_pos h3 (by simpa using h4), List.getElem?_map, List.getElem?_range (by omega)]
  have e : ((c.2.toNat : Nat) : Int) = c.2 := Int.toNat_of_nonneg h3
  show R.ok (wI (f (c.1, ((c.2.toNat : Nat) : Int)) : Nat)) = _
  rw [e]
theorem lkC_eq {α : Type} {f : List (C2 × α)} (nd : (f.map (·.1)).Nodup) {c : C2} {x : α} (h : (c, x) ∈ f) : lkC f c = some x := by
  obtain ⟨y, h1, h2⟩ := lkC_some (List.mem_map_of_mem (f := (·.1)) h)
  have : ∀ (f : List (C2 × α)), (f.map (·.1)).Nodup → (c, x) ∈ f → (c, y) ∈ f → y = x := by
    intro f
    induction f with
    | nil => intro _ h; simp at h
    | cons p f ih =>
      intro nd h1 h2
      rw [List.map_cons, List.nodup_cons] at nd
      rcases List.mem_cons.mp h1 with e1 | h1
      · rcases List.mem_cons.mp h2 with e2 | h2
        · rw [← e1] at e2; exact (Prod.mk.inj e2).2
        · exact (nd.1 (by rw [← e1]; exact List.mem_map_of_mem (f := (·.1)) h2)).elim
      · rcases List.mem_cons.mp h2 with e2 | h2
        · exact (nd.1 (by rw [← e2]; exact List.mem_map_of_mem (f := (·.1)) h1)).elim
        · exact ih nd.2 h1 h2
  rw [h1, this f nd h h2]
theorem parted_flat_nodup {b : Bd} (g : Good b) (k : Int) : (parted b k).flatten.Nodup := by have := (parted_inv (k := k) g).nd; rw [(parted_inv (k := k) g).fl] at this; exact this
theorem numAt_eq {b : Bd} (g : Good b) {k : Int} {n : Nat} {p : List C2} (h : (parted b k)[n]? = some p) {c : C2} (hc : c ∈ p) : numAt (parted b k) c = n := by
  have nd : ((placesL (parted b k)).map (·.1)).Nodup := by rw [placesL_keys]; exact parted_flat_nodup g k
  have hm : (c, n) ∈ placesL (parted b k) := by
    unfold placesL
    rw [foldl_flat (fun q : List C2 × Nat => q.1.map fun x => (x, q.2))]
    rw [List.nil_append, List.mem_flatMap]
    exact ⟨(p, n), by rw [List.mem_zipIdx_iff_getElem?]; exact h, List.mem_map.mpr ⟨c, hc, rfl⟩⟩
  unfold numAt
  rw [lkC_eq nd hm]; rfl
section

variable {b : Bd} (g : Good b) {k : Int} (hk : k = 4 ∨ k = 8) (h7 : b.length ≤ 7) (z : Nat) (hz : z ∈ [97, 98, 99, 100, 101, 102])

def addRow (b : Bd) (z : Nat) : Bd := b ++ [List.replicate (wd b) z]
theorem addRow_wd (g : Good b) : wd (addRow b z) = wd b := by
  unfold wd addRow
  rw [List.getD_eq_getElem?_getD, List.getElem?_append_left (by have := g.h1; omega), ← List.getD_eq_getElem?_getD]
theorem addRow_len : (addRow b z).length = b.length + 1 := by simp [addRow]
include g h7 hz in
theorem addRow_good : Good (addRow b z) := by
  have hw := addRow_wd z g
  refine ⟨by rw [addRow_len]; omega, by rw [addRow_len]; omega, by rw [hw]; exact g.w1, by rw [hw]; exact g.w8, fun r hr => ?_, fun r hr c hc => ?_⟩
  · rw [hw]
    rcases List.mem_append.mp hr with h | h
    · exact g.row r h
    · simp at h; subst h; simp
  · rcases List.mem_append.mp hr with h | h
    · exact g.lets r h c hc
    · simp at h; subst h
      rw [List.mem_replicate] at hc; rw [hc.2]; exact hz
theorem addRow_old (g : Good b) {c : C2} (h : ins b c = true) : ins (addRow b z) c = true ∧ Vd.ltr (addRow b z) c = Vd.ltr b c := by
  obtain ⟨h1, h2, h3, h4⟩ := ins_iff.mp h
  refine ⟨ins_iff.mpr ⟨h1, by rw [addRow_len]; omega, h3, by rw [addRow_wd z g]; exact h4⟩, ?_⟩
  unfold Vd.ltr addRow
  rw [List.getD_eq_getElem?_getD (l := b ++ _), List.getElem?_append_left (by omega), ← List.getD_eq_getElem?_getD]
theorem addRow_new (g : Good b) {j : Int} (h0 : 0 ≤ j) (h : j < wd b) : ins (addRow b z) ((b.length : Int), j) = true ∧ Vd.ltr (addRow b z) ((b.length : Int), j) = z := by
  refine ⟨ins_iff.mpr ⟨by simp, by rw [addRow_len]; simp; omega, h0, by rw [addRow_wd z g]; exact h⟩, ?_⟩
  unfold Vd.ltr addRow
  simp only [Int.toNat_natCast]
  rw [List.getD_eq_getElem?_getD (l := b ++ _), List.getElem?_append_right (by omega)]
  simp only [Nat.sub_self, List.getElem?_cons_zero, Option.getD_some]
  rw [List.getD_eq_getElem?_getD, List.getElem?_replicate, if_pos (by omega)]; rfl
theorem addRow_ins (g : Good b) {c : C2} (h : ins (addRow b z) c = true) : ins b c = true ∨ (c.1 = b.length ∧ 0 ≤ c.2 ∧ c.2 < wd b) := by
  obtain ⟨h1, h2, h3, h4⟩ := ins_iff.mp h
  rw [addRow_len] at h2
  rw [addRow_wd z g] at h4
  by_cases q : c.1 < b.length
  · exact .inl (ins_iff.mpr ⟨h1, q, h3, h4⟩)
  · exact .inr ⟨by omega, h3, h4⟩
include g hk h7 hz in
/-- a row of a letter that is nowhere else is one patch more -/
theorem count_addRow (hn : ∀ c, ins b c = true → Vd.ltr b c ≠ z) : (parted (addRow b z) k).length = (parted b k).length + 1 := by
  have g' := addRow_good g h7 z hz
  have up : ∀ c d, ins b c = true → Sm b k c d → Sm (addRow b z) k c d := fun c d hc sm => (Sm.carry (P := fun x => ins b x = true) (φ := id) g g' (fun x y _ h _ => near_ins h) (fun x h => (addRow_old z g h).1)
    (fun x y hx hy h e => ⟨near_mem.mpr ⟨(addRow_old z g hy).1, (near_mem.mp h).2⟩, by
      show Vd.ltr (addRow b z) y = Vd.ltr (addRow b z) x
      rw [(addRow_old z g hy).2, (addRow_old z g hx).2]; exact e⟩) hc hc sm).2
  have down : ∀ c d, ins b c = true → Sm (addRow b z) k c d → ins b d = true ∧ Sm b k c d := fun c d hc sm => Sm.carry (P := fun x => ins b x = true) (φ := id) g' g
    (fun x y hx h e => by
      rcases addRow_ins z g (near_ins h) with q | ⟨q1, q2, q3⟩
      · exact q
      · have e2 := addRow_new z g q2 q3
        have e3 : y = ((b.length : Int), y.2) := Prod.ext q1 rfl
        rw [e3, e2.2, (addRow_old z g hx).2] at e
        exact (hn x hx e.symm).elim) (fun x h => h)
    (fun x y hx hy h e => ⟨near_mem.mpr ⟨hy, (near_mem.mp h).2⟩, by
      show Vd.ltr b y = Vd.ltr b x
      rw [(addRow_old z g hy).2, (addRow_old z g hx).2] at e; exact e⟩) (addRow_old z g hc).1 hc sm
  have w1 := g.w1
  have h0 := addRow_new z g (j := 0) (by omega) (by omega)
  have row : ∀ (n : Nat), (n : Int) < wd b → Sm (addRow b z) k ((b.length : Int), 0) ((b.length : Int), (n : Int)) := by
    intro n
    induction n with
    | zero => intro _; exact Sm.refl g' h0.1
    | succ n ih =>
      intro hw
      have e1 := addRow_new z g (j := (n : Int)) (by omega) (by omega)
      have e2 := addRow_new z g (j := ((n + 1 : Nat) : Int)) (by omega) hw
      refine (ih (by omega)).step g' h0.1 (near_mem.mpr ⟨e2.1, (0, 1), ?_, Prod.ext (by simp) (by simp)⟩) (by rw [e1.2, e2.2])
      rcases hk with rfl | rfl <;> decide
  have F := firsts_reps (k := k) g
  have hlt := reps_count g' (k := k) (r := firsts b k ++ [((b.length : Int), 0)]) ⟨?_, fun c hc => ?_, fun c hc => ?_, fun c hc d hd sm => ?_⟩
  · rw [hlt, List.length_append, parted_len g]; rfl
  · rw [List.nodup_append]
    refine ⟨F.nd, by simp, fun a ha c hc e => ?_⟩
    simp at hc
    have := allC_mem.mp (F.sub a ha)
    rw [e, hc] at this
    obtain ⟨_, q, _⟩ := ins_iff.mp this
    simp at q
  · rcases List.mem_append.mp hc with h | h
    · exact allC_mem.mpr (addRow_old z g (allC_mem.mp (F.sub c h))).1
    · simp at h; subst h; exact allC_mem.mpr h0.1
  · rcases addRow_ins z g (allC_mem.mp hc) with h | ⟨q1, q2, q3⟩
    · obtain ⟨d, hd, sm⟩ := F.all c (allC_mem.mpr h)
      exact ⟨d, by simp [hd], up c d h sm⟩
    · refine ⟨_, by simp, Sm.symm g' h0.1 ?_⟩
      have := row c.2.toNat (by omega)
      rw [Int.toNat_of_nonneg q2] at this
      have e : c = ((b.length : Int), c.2) := Prod.ext q1 rfl
      rw [e]; exact this
  · have no : ∀ x y, ins b x = true → y.1 = (b.length : Int) → ¬ Sm (addRow b z) k x y := fun x y hx hy sm => by
      have := (down x y hx sm).1
      obtain ⟨_, q, _⟩ := ins_iff.mp this
      omega
    rcases List.mem_append.mp hc with h | h
    · have hci := allC_mem.mp (F.sub c h)
      rcases List.mem_append.mp hd with h2 | h2
      · exact F.one c h d h2 (down c d hci sm).2
      · simp at h2; subst h2; exact (no c _ hci rfl sm).elim
    · simp at h; subst h
      rcases List.mem_append.mp hd with h2 | h2
      · have hdi := allC_mem.mp (F.sub d h2)
        exact (no d _ hdi rfl (Sm.symm g' h0.1 sm)).elim
      · simp at h2; rw [h2]
end

end Cp


/-! L12b: the law k12, the walk. -/
namespace Cp

open L2 PyProof.Rows PySem PySem.Spec Vd Bf

theorem isF_cons {b : Bd} {k : Int} {c : C2} (h : isF b k c) : ∃ t, patch b k c = c :: t := by
  unfold isF at h
  cases z : patch b k c with
  | nil => rw [z] at h; simp at h
  | cons a t => rw [z] at h; simp at h; subst h; exact ⟨t, rfl⟩
theorem srtC_lt {l : List C2} (h : l.Pairwise ltC) : srtC l = l := by
  unfold srtC; exact srtC_self (h.imp fun h => h.le)
theorem parted_flat_mem {b : Bd} (g : Good b) (k : Int) (c : C2) : c ∈ (parted b k).flatten ↔ c ∈ allC b := by
  have I := parted_inv (k := k) g
  constructor
  · intro h; exact allC_mem.mpr (I.in_ g (by rw [I.fl]; exact h))
  · intro h; obtain ⟨p, hp, hc⟩ := parted_all (k := k) g (allC_mem.mp h); exact List.mem_flatten.mpr ⟨p, hp, hc⟩
theorem srtC_flat {b : Bd} (g : Good b) (k : Int) : srtC (parted b k).flatten = allC b := by
  rw [← srtC_lt (allC_lt b)]
  exact srtC_perm ((List.perm_ext_iff_of_nodup (parted_flat_nodup g k) (allC_nodup b)).mpr (parted_flat_mem g k))
/-- the numbers met -/
def metI (m : List Int) (i : Int) : List Int := m ++ (if i ∉ m then [i] else [])
theorem met_fold {b : Bd} (g : Good b) (k : Int) : ∀ (l pre : List C2), allC b = pre ++ l → (l.foldl (fun m c => metI m (numAt (parted b k) c)) (rgI (pre.filter fun c => decide (isF b k c)).length)) = rgI (firsts b k).length
  | [], pre, e => by rw [List.append_nil] at e; unfold firsts; rw [e]; rfl
  | c :: l, pre, e => by
    have ih := met_fold g k l (pre ++ [c]) (by rw [e]; simp)
    rw [List.foldl_cons, ← ih]
    congr 1
    have hc : ins b c = true := allC_mem.mp (by rw [e]; simp)
    have hform : parted b k = (pre.filter fun c => decide (isF b k c)).map (patch b k) ++ ((c :: l).filter fun c => decide (isF b k c)).map (patch b k) := by
      rw [parted_form g]; unfold firsts; rw [e, List.filter_append, List.map_append]
    rw [List.filter_append]
    by_cases q : isF b k c
    · have hn : (parted b k)[(pre.filter fun c => decide (isF b k c)).length]? = some (patch b k c) := by
        rw [hform, List.getElem?_append_right (by simp)]
        simp [q]
      have e1 := numAt_eq g hn (c := c) (patch_mem.mpr (Sm.refl g hc))
      rw [e1]
      have e2 : ([c].filter fun c => decide (isF b k c)) = [c] := by simp [q]
      rw [e2, List.length_append]
      unfold metI
      rw [if_pos]
      · unfold rgI; rw [List.length_singleton, List.range_succ, List.map_append]; rfl
      · unfold rgI; rw [List.mem_map]; rintro ⟨i, hi, h2⟩; rw [List.mem_range] at hi; omega
    · have hiff := isF_iff (k := k) g e
      obtain ⟨d, hd, sm⟩ := Classical.not_not.mp (fun h => q (hiff.mpr h))
      have hdi : ins b d = true := allC_mem.mp (by rw [e]; simp [hd])
      obtain ⟨f, hf, sf⟩ := (firsts_reps (k := k) g).all d (allC_mem.mpr hdi)
      have hfi := allC_mem.mp ((firsts_reps (k := k) g).sub f hf)
      have smf := Sm.trans g hfi (Sm.symm g hdi sf) sm
      have hfp : f ∈ pre := by
        have h1 := (firsts_reps (k := k) g).sub f hf
        rw [e] at h1
        rcases List.mem_append.mp h1 with h | h
        · exact h
        · -- f comes behind c or is c: then f is not first
          have lt := allC_lt b
          rw [e, List.pairwise_append] at lt
          have h3 := sorted_head (patch_sorted b k f) (firsts_mem.mp hf).2 d (patch_mem.mpr (Sm.symm g hdi sf))
          exact ((lt.2.2 d hd f h).not_le h3).elim
      have hmem : patch b k f ∈ (pre.filter fun c => decide (isF b k c)).map (patch b k) := List.mem_map_of_mem (List.mem_filter.mpr ⟨hfp, by simpa using (firsts_mem.mp hf).2⟩)
      obtain ⟨i, hi, h2⟩ := List.getElem_of_mem hmem
      have hn : (parted b k)[i]? = some (patch b k f) := by rw [hform, List.getElem?_append_left hi, List.getElem?_eq_getElem hi, h2]
      have e1 := numAt_eq g hn (c := c) (patch_mem.mpr smf)
      rw [e1]
      have e2 : ([c].filter fun c => decide (isF b k c)) = [] := by simp [q]
      rw [e2, List.append_nil]
      unfold metI
      rw [if_neg, List.append_nil]
      intro h; apply h
      unfold rgI; rw [List.mem_map]; rw [List.length_map] at hi
      exact ⟨i, by rw [List.mem_range]; exact hi, rfl⟩
section

variable {b : Bd} (g : Good b) {k : Int} (hk : k = 4 ∨ k = 8)

theorem D_firsts (i : Rho → R (List W)) (s : Nat) (ρ : Rho) (hs : s < ρ.length) (g : Good b) (hi : i ρ = .ok ((parted b k).map wCs)) : nLc i [s] (nG s) cYes (f2 pGet (fO s) (fC (wI 0))) ρ = .ok (.L ((firsts b k).map pC)) := by
  have hl : (firsts b k).length ≤ sizeLine := by
    have := nodup_le (firsts_reps (k := k) g).nd (m := allC b) (firsts_reps g).sub
    have := allC_len g
    unfold sizeLine; omega
  rw [nLc_all (fun c => wCs (patch b k c)) (firsts b k) pC _ hl]
  · intro c hc
    obtain ⟨t, ht⟩ := isF_cons (firsts_mem.mp hc).2
    have e : ((ρ.set s .un).set s (.fz (wCs (patch b k c))))[s]? = some (.fz (wCs (patch b k c))) := by rw [List.getElem?_set_self (by simpa using hs)]
    refine ⟨((ρ.set s .un).set s (.fz (wCs (patch b k c)))), ?_, rfl, ?_⟩
    · unfold nG setF killAt killAt; rw [if_pos (by simpa using hs)]
    · unfold f2 fO fC; rw [e]; simp only [bindok]; rw [ht]; exact pGet_Cs0 _ _
  · rw [hi, parted_form g, List.map_map]; rfl
noncomputable def stM (x : W) (b : Bd) (k : Int) (whole : List C2) (u v w : Sl) : Rho := [.fz x, .fz (wB b), .fz (wI k), .fz (wPs (parted b k)), .fz (wNum b (numAt (parted b k))), .fz (wCs whole), u, v, w, .un, .un, .un, .un]
end

end Cp




/-! L11a: letters renamed, boards turned: patches. -/
namespace Cp

open L2 PyProof.Rows PySem PySem.Spec Vd Bf

def mapB (f : Nat → Nat) (b : Bd) : Bd := b.map (List.map f)
theorem mapB_len (f : Nat → Nat) (b : Bd) : (mapB f b).length = b.length := by unfold mapB; rw [List.length_map]
theorem mapB_wd (f : Nat → Nat) (b : Bd) : wd (mapB f b) = wd b := by
  unfold wd mapB
  rw [List.getD_eq_getElem?_getD, List.getElem?_map, List.getD_eq_getElem?_getD]
  cases h : b[0]? <;> simp
theorem mapB_good {f : Nat → Nat} {b : Bd} (g : Good b) (h : ∀ r ∈ b, ∀ c ∈ r, f c ∈ [97, 98, 99, 100, 101, 102]) : Good (mapB f b) := by
  have hw := mapB_wd f b
  refine ⟨by rw [mapB_len]; exact g.h1, by rw [mapB_len]; exact g.h8, by rw [hw]; exact g.w1, by rw [hw]; exact g.w8, fun r hr => ?_, fun r hr c hc => ?_⟩
  · obtain ⟨r0, h0, rfl⟩ := List.mem_map.mp hr
    rw [hw, List.length_map]; exact g.row _ h0
  · obtain ⟨r0, h0, rfl⟩ := List.mem_map.mp hr
    obtain ⟨c0, h1, rfl⟩ := List.mem_map.mp hc
    exact h _ h0 _ h1
theorem mapB_ins (f : Nat → Nat) (b : Bd) : Vd.ins (mapB f b) = Vd.ins b := by funext c; unfold Vd.ins; rw [mapB_len, mapB_wd]
theorem mapB_ltr {f : Nat → Nat} (h0 : f 0 = 0) (b : Bd) (c : C2) : Vd.ltr (mapB f b) c = f (Vd.ltr b c) := by
  unfold Vd.ltr mapB
  rw [List.getD_eq_getElem?_getD (l := b.map _), List.getElem?_map, List.getD_eq_getElem?_getD (l := b)]
  cases b[c.1.toNat]? with
  | none => simp [h0]
  | some r =>
    simp only [Option.map_some, Option.getD_some]
    rw [List.getD_eq_getElem?_getD, List.getElem?_map, List.getD_eq_getElem?_getD]
    cases r[c.2.toNat]? with
    | none => simp [h0]
    | some x => rfl
theorem ltr_mem0 {b : Bd} (c : C2) : Vd.ltr b c = 0 ∨ Vd.ltr b c ∈ b.flatten := by
  unfold Vd.ltr
  rw [List.getD_eq_getElem?_getD (l := b)]
  cases h : b[c.1.toNat]? with
  | none => left; simp
  | some r =>
    simp only [Option.getD_some]
    rw [List.getD_eq_getElem?_getD]
    cases h2 : r[c.2.toNat]? with
    | none => left; rfl
    | some x => right; exact List.mem_flatten.mpr ⟨r, List.mem_of_getElem? h, List.mem_of_getElem? h2⟩
section

variable {f : Nat → Nat} {b : Bd} (inj : ∀ x y, (x = 0 ∨ x ∈ b.flatten) → (y = 0 ∨ y ∈ b.flatten) → f x = f y → x = y) (h0 : f 0 = 0)

include inj h0
theorem mapB_spread (k : Int) (one : C2) : spread (mapB f b) k one = spread b k one := by
  have e1 : nbk (mapB f b) k = nbk b k := by funext c; unfold nbk near; rw [mapB_ins]
  have e2 : okk (mapB f b) one = okk b one := by
    funext c
    unfold okk
    rw [mapB_ltr h0, mapB_ltr h0]
    by_cases q : Vd.ltr b c = Vd.ltr b one
    · simp [q]
    · rw [decide_eq_false q, decide_eq_false fun h => q (inj _ _ (ltr_mem0 c) (ltr_mem0 one) h)]
  unfold spread; rw [e1, e2]
theorem mapB_parted (k : Int) : parted (mapB f b) k = parted b k := by
  have e1 : patch (mapB f b) k = patch b k := by funext c; unfold patch; rw [mapB_spread inj h0]
  have e2 : prStep (mapB f b) k = prStep b k := by funext s c; unfold prStep; rw [e1]
  have e3 : allC (mapB f b) = allC b := by
    unfold allC
    rw [mapB_len]
    congr 1
    funext i
    unfold rowC
    rw [mapB_wd]
  unfold parted partedS; rw [e2, e3]
end
/-! ### the first six letters, backwards -/
def back6 : List Nat := [102, 101, 100, 99, 98, 97]
theorem zz6 : ∀ (L cs : List Nat) (c : Nat), c ∈ L → L.length ≤ cs.length → ∃ i, i < L.length ∧ L[i]? = some c ∧ lkS (L.zip cs) c = cs[i]?
  | [], _, _, h, _ => by cases h
  | _ :: _, [], _, _, h => by simp at h
  | a :: L, y :: cs, c, h, hl => by
    by_cases q : a = c
    · refine ⟨0, by simp, by simp [q], ?_⟩
      unfold lkS
      simp [q]
    · have hc : c ∈ L := by
        rcases List.mem_cons.mp h with e | e
        · exact absurd e.symm q
        · exact e
      obtain ⟨i, h1, h2, h3⟩ := zz6 L cs c hc (by simpa using hl)
      refine ⟨i + 1, by simpa using h1, by simpa using h2, ?_⟩
      rw [List.getElem?_cons_succ, ← h3]
      unfold lkS
      simp [q]
theorem back6_get {i : Nat} (h : i < 6) : back6[i]? = some (102 - i) := by
  unfold back6
  rcases i with _ | _ | _ | _ | _ | _ | i
  all_goals first | rfl | omega
def re6 (L : List Nat) (c : Nat) : Nat := (lkS (L.zip back6) c).getD 0
theorem re6_in {L : List Nat} (hl : L.length ≤ 6) {c : Nat} (h : c ∈ L) : ∃ i, i < 6 ∧ L[i]? = some c ∧ re6 L c = 102 - i ∧ lkS (L.zip back6) c = some (re6 L c) := by
  obtain ⟨i, h1, h2, h3⟩ := zz6 L back6 c h (by simpa [back6] using hl)
  rw [back6_get (by omega)] at h3
  have e : re6 L c = 102 - i := by unfold re6; rw [h3]; rfl
  exact ⟨i, by omega, h2, e, by rw [h3, e]⟩
theorem re6_zero {L : List Nat} (h : 0 ∉ L) : re6 L 0 = 0 := by
  unfold re6 lkS
  rw [List.find?_eq_none.mpr]
  · rfl
  · intro p hp q
    have hp1 := (List.of_mem_zip (a := p.1) (b := p.2) hp).1
    simp at q
    rw [q] at hp1; exact h hp1
theorem re6_inj {L : List Nat} (hl : L.length ≤ 6) (h0 : 0 ∉ L) : ∀ x y, (x = 0 ∨ x ∈ L) → (y = 0 ∨ y ∈ L) → re6 L x = re6 L y → x = y := by
  intro x y hx hy e
  rcases hx with rfl | hx
  · rcases hy with rfl | hy
    · rfl
    · obtain ⟨i, h1, h2, h3, _⟩ := re6_in hl hy
      rw [re6_zero h0, h3] at e; omega
  · obtain ⟨i, h1, h2, h3, _⟩ := re6_in hl hx
    rcases hy with rfl | hy
    · rw [re6_zero h0, h3] at e; omega
    · obtain ⟨j, g1, g2, g3, _⟩ := re6_in hl hy
      rw [h3, g3] at e
      have : i = j := by omega
      subst this
      rw [h2] at g2
      exact Option.some.inj g2
section

variable {b : Bd} (g : Good b)

include g
theorem srt_len : (srtN b.flatten).length ≤ 6 := by
  have := nodup_le (srtN_nodup b.flatten) (m := [97, 98, 99, 100, 101, 102]) fun c hc => by
    obtain ⟨r, h1, h2⟩ := List.mem_flatten.mp (srtN_mem.mp hc)
    exact g.lets r h1 c h2
  simpa using this
theorem srt_zero : 0 ∉ srtN b.flatten := fun hc => by
  obtain ⟨r, h1, h2⟩ := List.mem_flatten.mp (srtN_mem.mp hc)
  have := g.lets r h1 0 h2
  simp at this
noncomputable def renB (b : Bd) : Bd := mapB (re6 (srtN b.flatten)) b
theorem ren_good : Good (renB b) := mapB_good g fun r hr c hc => by
  obtain ⟨i, h1, _, h3, _⟩ := re6_in (srt_len g) (srtN_mem.mpr (List.mem_flatten.mpr ⟨r, hr, hc⟩))
  rw [h3]
  rcases i with _ | _ | _ | _ | _ | _ | i
  all_goals first | (simp; done) | omega
theorem ren_parted (k : Int) : parted (renB b) k = parted b k :=
  mapB_parted (fun x y hx hy e => re6_inj (srt_len g) (srt_zero g) x y (hx.imp id srtN_mem.mpr) (hy.imp id srtN_mem.mpr) e) (re6_zero (srt_zero g)) k
end

def flφ (b : Bd) (c : C2) : C2 := ((b.length : Int) - 1 - c.1, c.2)
theorem fl_fl (b : Bd) (c : C2) : flφ b (flφ b c) = c := by unfold flφ; exact Prod.ext (by simp; omega) rfl
theorem rev_wd {b : Bd} (g : Good b) : wd b.reverse = wd b := by
  have h1 := g.h1
  unfold wd
  rw [List.getD_eq_getElem?_getD, List.getElem?_reverse (by omega), List.getElem?_eq_getElem (by omega)]
  exact g.row _ (List.getElem_mem _)
theorem rev_good {b : Bd} (g : Good b) : Good b.reverse := by
  have hw := rev_wd g
  exact ⟨by rw [List.length_reverse]; exact g.h1, by rw [List.length_reverse]; exact g.h8, by rw [hw]; exact g.w1, by rw [hw]; exact g.w8, fun r hr => by rw [hw]; exact g.row r (List.mem_reverse.mp hr), fun r hr => g.lets r (List.mem_reverse.mp hr)⟩
theorem fl_ltr {b : Bd} (g : Good b) {x : C2} (h : Vd.ins b x = true) : Vd.ltr b.reverse (flφ b x) = Vd.ltr b x := by
  obtain ⟨h1, h2, h3, h4⟩ := ins_iff.mp h
  unfold Vd.ltr flφ
  simp only []
  have e : b.reverse.getD ((b.length : Int) - 1 - x.1).toNat [] = b.getD x.1.toNat [] := by
    rw [List.getD_eq_getElem?_getD, List.getElem?_reverse (by omega), List.getD_eq_getElem?_getD]
    congr 2; omega
  rw [e]
theorem fl_iso {b : Bd} (g : Good b) (k : Int) : Iso b b.reverse k (flφ b) (flφ b) := by
  have hw := rev_wd g
  have hl : b.reverse.length = b.length := List.length_reverse
  have i1 : ∀ x, Vd.ins b x = true → Vd.ins b.reverse (flφ b x) = true := fun x h => by
    obtain ⟨h1, h2, h3, h4⟩ := ins_iff.mp h
    exact ins_iff.mpr ⟨by unfold flφ; simp; omega, by rw [hl]; unfold flφ; simp; omega, h3, by rw [hw]; exact h4⟩
  have i2 : ∀ x, Vd.ins b.reverse x = true → Vd.ins b (flφ b x) = true := fun x h => by
    obtain ⟨h1, h2, h3, h4⟩ := ins_iff.mp h
    rw [hl] at h2
    rw [hw] at h4
    exact ins_iff.mpr ⟨by unfold flφ; simp; omega, by unfold flφ; simp; omega, h3, h4⟩
  have s1 : ∀ s ∈ stepsL k, ((-s.1, s.2) : C2) ∈ stepsL k := by unfold stepsL; split <;> decide
  refine ⟨i1, i2, fun x h => fl_ltr g h, fun x h => ?_, fun x y hx hy => ?_, fun x y hx hy => ?_, fl_fl b, fl_fl b⟩
  · have := fl_ltr g (i2 x h)
    rw [fl_fl] at this; exact this.symm
  · obtain ⟨h1, s, h2, rfl⟩ := near_mem.mp hy
    refine near_mem.mpr ⟨i1 _ h1, _, s1 s h2, ?_⟩
    unfold flφ; exact Prod.ext (by simp; omega) rfl
  · obtain ⟨h1, s, h2, rfl⟩ := near_mem.mp hy
    refine near_mem.mpr ⟨i2 _ h1, _, s1 s h2, ?_⟩
    unfold flφ; exact Prod.ext (by simp; omega) rfl
/-- as many patches, of the same sizes -/
noncomputable def sizN (b : Bd) (k : Int) : List Int := (parted b k).map fun p => ((p.length : Nat) : Int)
theorem size_iso {b t : Bd} {k : Int} {φ ψ : C2 → C2} (g : Good b) (gt : Good t) (I : Iso b t k φ ψ) : srtI (sizN t k) = srtI (sizN b k) := by
  obtain ⟨ρ, h1, h2⟩ := I.perm g gt
  refine srtI_perm ?_
  unfold sizN
  rw [parted_form g, parted_form gt, List.map_map, List.map_map]
  refine (h1.symm.map _).trans ?_
  rw [List.map_map]
  refine List.Perm.of_eq (List.map_congr_left fun c hc => ?_)
  show (((patch t k (ρ c)).length : Nat) : Int) = ((patch b k c).length : Nat)
  rw [(h2 c hc).length_eq, List.length_map]
end Cp







/-! L11: the law. -/
namespace Cp

open L2 PyProof.Rows PySem PySem.Spec Vd Bf

theorem pds_dats : ∀ ds : List Pd, pds (ds.map W.dat) = .ok ds
  | [] => rfl
  | d :: ds => by
    rw [List.map_cons, pds_dat, pds_dats ds]; rfl
theorem nLst_ds {t : Rho → R (List W)} {ρ : Rho} {ds : List Pd} (e : t ρ = .ok (ds.map W.dat)) (hl : ds.length ≤ 1000) : nLst t ρ = .ok (.L ds) := by
  unfold nLst
  rw [e, bindok, pds_dats, bindok, if_pos (by unfold fits; unfold sizeLine; omega)]
theorem st_lst {t : Rho → R (List W)} {ρ : Rho} {ds : List Pd} (e : t ρ = .ok (ds.map W.dat)) (hl : ds.length ≤ 1000) : fOt (nLst t) ρ = .ok (.dat (.list ds)) := (st_ot (nLst_ds e hl)).trans rfl
theorem st_tup {t : Rho → R (List W)} {ρ : Rho} {ds : List Pd} (e : t ρ = .ok (ds.map W.dat)) (hl : ds.length ≤ 1000) : fTup t ρ = .ok (.dat (.tuple ds)) := by
  unfold fTup
  rw [e, bindok, pds_dats, bindok, if_pos (by unfold fits; unfold sizeLine; omega)]
theorem st_f1 {h : W → R W} {f : Rho → R W} {ρ : Rho} {x y : W} (e : f ρ = .ok x) (e2 : h x = .ok y) : f1 h f ρ = .ok y := by unfold f1; rw [e, bindok, e2]
theorem get_l1 (l : List Pd) (x : Pd) : pGet (.dat (.list (l ++ [x]))) (wI (-1)) = .ok (.dat x) := by
  show optW .dat (atI (l ++ [x]) (-1)) = _
  rw [atI_last _ (by simp)]; simp [optW]
theorem get_l2 (l : List Pd) (y x : Pd) : pGet (.dat (.list (l ++ [y, x]))) (wI (-2)) = .ok (.dat y) := by
  show optW .dat (atI (l ++ [y, x]) (-2)) = _
  have e : atI (l ++ [y, x]) (-2) = some y := by
    unfold atI ixN
    rw [if_neg (by omega), if_pos (by simp; omega)]
    show (l ++ [y, x])[((-2 : Int) + ((l ++ [y, x]).length : Int)).toNat]? = _
    rw [show ((-2 : Int) + ((l ++ [y, x]).length : Int)).toNat = l.length by simp; omega]
    simp
  rw [e]; rfl
theorem get_m {f : Rho → R W} {ρ : Rho} {l : List Pd} {x : Pd} (e : f ρ = .ok (.dat (.list (l ++ [x])))) : f2 pGet f (f1 pNeg (fC (wI 1))) ρ = .ok (.dat x) := st_2 e rfl (get_l1 l x)
theorem get_m2 {f : Rho → R W} {ρ : Rho} {l : List Pd} {y x : Pd} (e : f ρ = .ok (.dat (.list (l ++ [y, x])))) : f2 pGet f (f1 pNeg (fC (wI 2))) ρ = .ok (.dat y) := st_2 e rfl (get_l2 l y x)
theorem D_law_all {b : Bd} (g : Good b) (k : Int) : F_law_all [wPs (parted b k)] = .ok (wCs (parted b k).flatten) := by
  have hfl : (parted b k).flatten.length ≤ 64 := by have := (parted_inv (k := k) g).len g; rw [(parted_inv (k := k) g).fl] at this; exact this
  have main : g_law_all [.fz (wPs (parted b k)), .un, .un] = .ok (.rt (wCs (parted b k).flatten)) := by
    unfold g_law_all
    refine Eq.trans (seq_nx (ρ' := [.fz (wPs (parted b k)), .fz (wCs []), .un]) (st_set (st_ot nLst_nil))) ?_
    refine Eq.trans (seq_nx (ρ' := [.fz (wPs (parted b k)), .fz (wCs (parted b k).flatten), .un]) ?_) (st_ret rfl)
    show gFor _ _ _ [.fz (wPs (parted b k)), .fz (wCs []), .un] = _
    rw [gFor_inv wCs (parted b k) (fun s : List C2 => [.fz (wPs (parted b k)), .fz (wCs s), .un]) (fun s p => s ++ p) (fun q s => s.length + q.flatten.length ≤ 100) [] ?_ rfl ?_ ?_]
    · congr 4
      have : ∀ (l : List (List C2)) (s : List C2), l.foldl (fun s p => s ++ p) s = s ++ l.flatten := fun l => by
        induction l with
        | nil => intro s; simp
        | cons p l ih => intro s; rw [List.foldl_cons, ih, List.flatten_cons, List.append_assoc]
      rw [this]; simp
    · exact st_items rfl (items_Ps _)
    · show ([] : List C2).length + (parted b k).flatten.length ≤ 100
      simp only [List.length_nil]; omega
    · intro p q s h
      rw [List.flatten_cons, List.length_append] at h
      refine ⟨?_, by rw [List.length_append]; omega⟩
      refine (st_kill (is := [2]) (ρ' := [.fz (wPs (parted b k)), .fz (wCs (s ++ p)), .fz (wCs p)]) ?_).trans rfl
      refine st_set (st_2 (x := wCs s) (y := wCs p) rfl rfl ?_)
      have hl : (s.map pC).length + (p.map pC).length ≤ sizeLine := by unfold sizeLine; simp; omega
      show (if (s.map pC).length + (p.map pC).length ≤ sizeLine then R.ok (W.dat (.list (s.map pC ++ p.map pC))) else .no) = _
      rw [if_pos hl, ← List.map_append]; rfl
  show (g_law_all [.fz (wPs (parted b k)), .un, .un]).bind outW = _
  rw [main]; rfl
theorem strs_map (L : List Nat) : strsOf (L.map fun c => .str (S [c])) = some (L.map fun c => S [c]) := by
  induction L with
  | nil => rfl
  | cons c L ih =>
    show (strsOf (L.map fun c => .str (S [c]))).map _ = _
    rw [ih]; rfl
theorem dz_S : ∀ L cs : List Nat, dzD (L.map fun c => S [c]) cs = dSs (L.zip cs)
  | [], _ => rfl
  | _ :: _, [] => rfl
  | c :: L, x :: cs => by
    show _ :: dzD (L.map fun c => S [c]) cs = _ :: dSs (L.zip cs)
    rw [dz_S L cs]; rfl
theorem st_dz {t : Rho → R (List W)} {ρ : Rho} {L : List Nat} (e : t ρ = .ok [.dat (.list (L.map fun c => .str (S [c]))), wS back6]) (nd : L.Nodup) (hl : L.length ≤ 6) : fOt (nDictZ t) ρ = .ok (.dK (dSs (L.zip back6))) := by
  refine (st_ot (t := .dK (dSs (L.zip back6))) ?_).trans rfl
  unfold nDictZ
  rw [e, bindok]
  show (match strsOf (L.map fun c => PyData.str (S [c])) with
    | some ks => @ite _ (ks.Nodup ∧ ks.length ≤ (S back6).cps.size) (Classical.propDecidable _) (R.ok (OT.dK (dzD ks (S back6).cps.toList))) .no
    | none => R.no) = _
  rw [strs_map]
  simp only []
  have n1 : (L.map fun c => S [c]).Nodup := List.pairwise_map.mpr (nd.imp fun h e => h (by
    have := congrArg (fun z : Str => z.cps.toList) e
    simpa [S] using this))
  have n2 : (L.map fun c => S [c]).length ≤ (S back6).cps.size := by rw [List.length_map]; exact hl
  refine (if_pos ⟨n1, n2⟩).trans ?_
  rw [← dz_S]
theorem ltr_eqS {x y : Nat} (hx : x < 0x110000) (hy : y < 0x110000) (n : Bool) : pEq n (wS [x]) (wS [y]) = .ok (bv (if n = true then decide (¬ x = y) else decide (x = y))) := by
  rw [pEq_S n (fun z hz => by rw [List.mem_singleton.mp hz]; exact hx) (fun z hz => by rw [List.mem_singleton.mp hz]; exact hy)]
  have e : ([x] = [y]) ↔ x = y := by simp
  simp only [e]
section

variable {xs : List Int} {b : Bd} (g : Good b) (h25 : (allC b).length ≤ 25) (hf25 : b.flatten.length < 64) {k : Int} (hk : k = 4 ∨ k = 8)

abbrev s11 (X : W) (b : Bd) (k : Int) (x4 x5 x6 x7 x8 x9 x10 x11 x12 x13 x14 x15 : Sl) : Rho := [.fz X, .fz (wB b), .fz (wCs (allC b)), .fz (wI k), x4, x5, x6, x7, x8, x9, x10, x11, x12, x13, x14, x15, .un, .un, .un, .un]
include g
theorem ltr_lt {c : C2} (hc : Vd.ins b c = true) : Vd.ltr b c < 0x110000 := by
  have := g.ltr_mem hc
  simp at this; omega
include h25 hk
theorem row11 (X : W) {n : Nat} {p : List C2} (hp : (parted b k)[n]? = some p) :
    (gThenKill [6, 7, 8, 9, 10] (gSeq (gIf (fOr (fT (f2 (pEq true) (fO 7) (f1 pSrtSet (fV 7)))) (fT (f2 (pEq true) (f1 pLenSetS (fOt (nLc (iVal (fV 7)) [8] (nG 8) cYes (fCal F_letter_at (aCons (fV 1) (aCons (fV 8) aNil)))))) (fC (wI 1))))) (gRet (fC (.dat (.bool false)))) Vd.gNil)
  (gKill [8, 9, 10] (gFor (iVal (fV 7)) (nG 8) (gThenKill [8, 9, 10] (gSeq (gSet 9 (fCal F_letter_at (aCons (fV 1) (aCons (fV 8) aNil))))
  (gSeq (gThenFrz 10 (gOwn 10 (nLc (iVal (fCal F_beside (aCons (fV 1) (aCons (fV 8) (aCons (fV 3) aNil))))) [16] (nG 16) (fT (f2 (pEq false) (fCal F_letter_at (aCons (fV 1) (aCons (fV 16) aNil))) (fO 9))) (fV 16))))
  (gSeq (gIf (fT (f2 (pEq true) (fOt (nLc (iVal (fV 10)) [16] (nG 16) (fT (f2 (pInW true) (fO 16) (fO 7))) (fV 16))) (fOt (nLst aNil)))) (gRet (fC (.dat (.bool false)))) Vd.gNil)
  (gIf (fT (f2 (pEq true) (f2 pGet (f2 pGet (fO 5) (f2 pGet (fO 8) (fC (wI 0)))) (f2 pGet (fO 8) (fC (wI 1)))) (fO 6))) (gRet (fC (.dat (.bool false)))) Vd.gNil))))))))) (s11 X b k (.fz (wPs (parted b k))) (.fz (wNum b (numAt (parted b k)))) (.fz (wI n)) (.fz (wCs p)) .un .un .un .un .un .un .un .un) = .ok (.nx (s11 X b k (.fz (wPs (parted b k))) (.fz (wNum b (numAt (parted b k)))) .un .un .un .un .un .un .un .un .un .un)) := by
  have hpm : p ∈ parted b k := List.mem_of_getElem? hp
  obtain ⟨c, hF, rfl⟩ : ∃ c ∈ firsts b k, patch b k c = p := by
    rw [parted_form g] at hpm
    obtain ⟨c, h1, h2⟩ := List.mem_map.mp hpm
    exact ⟨c, h1, h2⟩
  obtain ⟨hc, hf⟩ := firsts_mem.mp hF
  have hin : ∀ d ∈ patch b k c, Vd.ins b d = true := fun d hd => Sm.ins g hc (patch_mem.mp hd)
  have hlen : (patch b k c).length ≤ 25 := Nat.le_trans (nodup_le (patch_nodup g hc) fun d hd => allC_mem.mpr (hin d hd)) h25
  have hne : patch b k c ≠ [] := fun e => by
    have := patch_mem.mpr (Sm.refl g (k := k) hc); rw [e] at this; cases this
  have h8 := g.h8
  have w8 := g.w8
  have esrt : pSrtSet (wCs (patch b k c)) = .ok (wCs (patch b k c)) := by
    rw [pSrtSet_Cs _ (by omega) fun d hd => by
      obtain ⟨q1, q2, q3, q4⟩ := ins_iff.mp (hin d hd)
      exact ⟨⟨q1, by omega⟩, q3, by omega⟩]
    rw [srtK_self (patch_sorted b k c) (patch_nodup g hc)]
  have eset : pLenSetS (.dat (.list ((patch b k c).map fun _ => pR [Vd.ltr b c]))) = .ok (wI 1) := by
    have h1 := pLenSetS_R ((patch b k c).map fun _ => [Vd.ltr b c]) (by rw [List.length_map]; omega)
    rw [ddup_const [Vd.ltr b c] (fun e => hne (List.map_eq_nil_iff.mp e)) (fun x hx => by obtain ⟨_, _, rfl⟩ := List.mem_map.mp hx; rfl), List.map_map] at h1
    exact h1
  have ltr_p : ∀ d ∈ patch b k c, Vd.ltr b d = Vd.ltr b c := fun d hd => (patch_mem.mp hd).ltr_eq g hc
  refine (st_kill (is := [6, 7, 8, 9, 10]) (ρ' := s11 X b k (.fz (wPs (parted b k))) (.fz (wNum b (numAt (parted b k)))) (.fz (wI n)) (.fz (wCs (patch b k c))) .un .un .un .un .un .un .un .un) ?_).trans rfl
  refine Eq.trans (seq_if (or2 (ne_no (x := wCs (patch b k c)) (y := wCs (patch b k c)) rfl (st_f1 (x := wCs (patch b k c)) rfl esrt) (by rw [pEq_Cs]; simp)) (ne_no (x := wI 1) (y := wI 1) (st_f1 (x := .dat (.list ((patch b k c).map fun _ => pR [Vd.ltr b c]))) ((st_ot (nLc_all wC (patch b k c) (fun _ => pR [Vd.ltr b c]) (st_items (w := wCs (patch b k c)) rfl (items_Cs _)) (by unfold sizeLine; omega) fun d hd => ⟨_, rfl, rfl, ?_⟩)).trans rfl) eset) rfl (by rw [pEq_I]; simp)))) ?_
  · refine cal_ok (st_cons (w := wB b) rfl (st_cons (w := wC d) rfl st_nil)) ?_
    rw [D_letter_at g (hin d hd), ltr_p d hd]; rfl
  show gFor _ _ _ (s11 X b k (.fz (wPs (parted b k))) (.fz (wNum b (numAt (parted b k)))) (.fz (wI n)) (.fz (wCs (patch b k c))) .un .un .un .un .un .un .un .un) = _
  rw [gFor_inv wC (patch b k c) (fun _ : Unit => s11 X b k (.fz (wPs (parted b k))) (.fz (wNum b (numAt (parted b k)))) (.fz (wI n)) (.fz (wCs (patch b k c))) .un .un .un .un .un .un .un .un) (fun s _ => s) (fun q _ => ∀ d ∈ q, d ∈ patch b k c) () (st_items (w := wCs (patch b k c)) rfl (items_Cs _)) rfl (fun d hd => hd) ?_]
  intro d q s hq
  refine ⟨?_, fun x hx => hq x (List.mem_cons_of_mem _ hx)⟩
  have hd := hq d List.mem_cons_self
  have hdi := hin d hd
  have hnum : numAt (parted b k) d = n := numAt_eq g hp hd
  have hnr : (near b d k).length ≤ 8 := near_len b d k
  refine (st_kill (is := [8, 9, 10]) (ρ' := s11 X b k (.fz (wPs (parted b k))) (.fz (wNum b (numAt (parted b k)))) (.fz (wI n)) (.fz (wCs (patch b k c))) (.fz (wC d)) (.fz (wS [Vd.ltr b d])) (.fz (wCs ((near b d k).filter fun x => decide (Vd.ltr b x = Vd.ltr b d)))) .un .un .un .un .un) ?_).trans rfl
  refine Eq.trans (seq_nx (ρ' := s11 X b k (.fz (wPs (parted b k))) (.fz (wNum b (numAt (parted b k)))) (.fz (wI n)) (.fz (wCs (patch b k c))) (.fz (wC d)) (.fz (wS [Vd.ltr b d])) .un .un .un .un .un .un) (st_set (cal_ok (st_cons rfl (st_cons rfl st_nil)) (D_letter_at g hdi)))) ?_
  refine Eq.trans (seq_nx (ρ' := s11 X b k (.fz (wPs (parted b k))) (.fz (wNum b (numAt (parted b k)))) (.fz (wI n)) (.fz (wCs (patch b k c))) (.fz (wC d)) (.fz (wS [Vd.ltr b d])) (.fz (wCs ((near b d k).filter fun x => decide (Vd.ltr b x = Vd.ltr b d)))) .un .un .un .un .un) (st_ownfrz2 (t := .L (((near b d k).filter fun x => decide (Vd.ltr b x = Vd.ltr b d)).map pC)) (nLc_map wC (near b d k) pC (fun x => decide (Vd.ltr b x = Vd.ltr b d)) (st_items (cal_ok (st_cons rfl (st_cons rfl (st_cons rfl st_nil))) (D_beside g hdi hk)) (items_Cs _)) (by unfold sizeLine; omega) fun x hx => ⟨_, rfl, ?_, fun _ => rfl⟩))) ?_
  · have hxi := near_ins hx
    refine st_T2 (x := wS [Vd.ltr b x]) (y := wS [Vd.ltr b d]) (cal_ok (st_cons (w := wB b) rfl (st_cons (w := wC x) rfl st_nil)) (D_letter_at g hxi)) rfl ?_
    rw [ltr_eqS (ltr_lt g hxi) (ltr_lt g hdi)]; simp
  refine Eq.trans (seq_if (ne_no (x := wCs []) (y := wCs []) ((st_ot (nLc_map wC ((near b d k).filter fun x => decide (Vd.ltr b x = Vd.ltr b d)) pC (fun x => decide (x ∉ patch b k c)) (st_items (w := wCs ((near b d k).filter fun x => decide (Vd.ltr b x = Vd.ltr b d))) rfl (items_Cs _)) (by have := List.length_filter_le (fun x => decide (Vd.ltr b x = Vd.ltr b d)) (near b d k); unfold sizeLine; omega) fun x hx => ⟨_, rfl, ?_, fun _ => rfl⟩)).trans ?_) ((st_ot nLst_nil).trans rfl) (by rw [pEq_Cs]; simp))) ?_
  · refine st_T2 (x := wC x) (y := wCs (patch b k c)) rfl rfl ?_
    rw [pIn_Cs]; simp
  · rw [List.filter_eq_nil_iff.mpr]
    · rfl
    · intro x hx
      obtain ⟨h1, h2⟩ := List.mem_filter.mp hx
      have h2 : Vd.ltr b x = Vd.ltr b d := by simpa using h2
      have := patch_mem.mpr (Sm.step g hc (patch_mem.mp hd) h1 h2)
      simp [this]
  refine if_no (ne_no (x := wI n) (y := wI n) ?_ rfl (by rw [pEq_I]; simp))
  obtain ⟨q1, q2, q3, q4⟩ := ins_iff.mp hdi
  refine st_2 (st_2 (x := wNum b (numAt (parted b k))) rfl (st_C (c := d) rfl).1 (pGet_num1 _ q1 q2)) (st_C (c := d) rfl).2 ?_
  rw [pGet_num2 _ _ q3 q4]
  show R.ok (wI (numAt (parted b k) d : Nat)) = _
  rw [hnum]
include hf25
theorem sizes11 {t : Bd} (gt : Good t) {φ ψ : C2 → C2} (I : Iso b t k φ ψ) {f : Rho → R W} {ρ : Rho} (hf : fCal F_patches (aCons f (aCons (fV 3) aNil)) ρ = .ok (wPs (parted t k))) (h7 : Nat.blt 7 ρ.length = true) (h12 : fO 12 ρ = .ok (wIs (srtI (sizN b k)))) :
    (gIf (fT (f2 (pEq true) (fCal pSorted (aCons (fOt (nLc (iVal (fCal F_patches (aCons f (aCons (fV 3) aNil)))) [7] (nG 7) cYes (fCal pLen (aCons (fO 7) aNil)))) aNil)) (fO 12))) (gRet (fC (.dat (.bool false)))) Vd.gNil) ρ = .ok (.nx ρ) := by
  have h7 := Nat.le_of_ble_eq_true h7
  have pl : (parted t k).length ≤ 64 := by
    rw [parted_len gt]
    have hfl := List.length_filter_le (fun c => decide (isF t k c)) (allC t)
    have hal := allC_len gt
    unfold firsts; omega
  refine if_no (ne_no (x := wIs (srtI (sizN t k))) (y := wIs (srtI (sizN b k))) (st_cal1' (x := wIs (sizN t k)) ((st_ot (nLc_all wCs (parted t k) (fun p => .int ((p.length : Nat) : Int)) (st_items hf (items_Ps _)) (by unfold sizeLine; omega) fun p hp => ?_)).trans ?_) (pSorted_Is _ (by unfold sizN sizeLine; rw [List.length_map]; omega))) h12 (by rw [size_iso g gt I, pEq_Is]; simp))
  · have hl : 7 < (killAt [7] ρ).length := by rw [killAt_len]; exact h7
    refine ⟨(killAt [7] ρ).set 7 (.fz (wCs p)), ?_, rfl, ?_⟩
    · show setF 7 (wCs p) (killAt [7] ρ) = _
      unfold setF; rw [if_pos hl]
    · refine st_cal1' (x := wCs p) ?_ (pLen_Cs _)
      unfold fO
      rw [List.getElem?_set_self hl]
  · show R.ok (W.dat (.list _)) = R.ok (W.dat (.list _))
    unfold sizN
    rw [List.map_map]; rfl
theorem turn11 (X : W) : (gThenKill [3, 4, 5, 6, 7, 8, 9, 10, 11, 12, 13, 14, 15] (gSeq (gSet 4 (fCal F_patches (aCons (fV 1) (aCons (fV 3) aNil))))
  (gSeq (gIf (fOr (fT (f2 (pEq true) (fCal pSorted (aCons (fCal F_law_all (aCons (fV 4) aNil)) aNil)) (fO 2))) (fT (f2 (pEq true) (fCal pLen (aCons (fO 4) aNil)) (fCal F_how_many (aCons (fV 1) (aCons (fV 3) aNil)))))) (gRet (fC (.dat (.bool false)))) Vd.gNil)
  (gSeq (gSet 5 (fCal F_numbered (aCons (fV 1) (aCons (fV 3) aNil))))
  (gSeq (gKill [6, 7, 8, 9, 10] (gFor (iL enum1 (aCons (fV 4) aNil)) (tupG 2 (consG (nG 6) (consG (nG 7) nilG))) (gThenKill [6, 7, 8, 9, 10] (gSeq (gIf (fOr (fT (f2 (pEq true) (fO 7) (f1 pSrtSet (fV 7)))) (fT (f2 (pEq true) (f1 pLenSetS (fOt (nLc (iVal (fV 7)) [8] (nG 8) cYes (fCal F_letter_at (aCons (fV 1) (aCons (fV 8) aNil)))))) (fC (wI 1))))) (gRet (fC (.dat (.bool false)))) Vd.gNil)
  (gKill [8, 9, 10] (gFor (iVal (fV 7)) (nG 8) (gThenKill [8, 9, 10] (gSeq (gSet 9 (fCal F_letter_at (aCons (fV 1) (aCons (fV 8) aNil))))
  (gSeq (gThenFrz 10 (gOwn 10 (nLc (iVal (fCal F_beside (aCons (fV 1) (aCons (fV 8) (aCons (fV 3) aNil))))) [16] (nG 16) (fT (f2 (pEq false) (fCal F_letter_at (aCons (fV 1) (aCons (fV 16) aNil))) (fO 9))) (fV 16))))
  (gSeq (gIf (fT (f2 (pEq true) (fOt (nLc (iVal (fV 10)) [16] (nG 16) (fT (f2 (pInW true) (fO 16) (fO 7))) (fV 16))) (fOt (nLst aNil)))) (gRet (fC (.dat (.bool false)))) Vd.gNil)
  (gIf (fT (f2 (pEq true) (f2 pGet (f2 pGet (fO 5) (f2 pGet (fO 8) (fC (wI 0)))) (f2 pGet (fO 8) (fC (wI 1)))) (fO 6))) (gRet (fC (.dat (.bool false)))) Vd.gNil)))))))))))
  (gSeq (gThenFrz 11 (gOwn 11 (nLc (iVal (fV 4)) [7] (nG 7) cYes (f2 pGet (fO 7) (fC (wI 0))))))
  (gSeq (gIf (fOr (fT (f2 (pEq true) (fO 11) (fCal pSorted (aCons (fO 11) aNil)))) (fT (f2 (pEq true) (fCal F_patch_of (aCons (fV 1) (aCons (f2 pGet (f2 pGet (fO 4) (f1 pNeg (fC (wI 1)))) (f1 pNeg (fC (wI 1)))) (aCons (fV 3) aNil)))) (f2 pGet (fO 4) (f1 pNeg (fC (wI 1))))))) (gRet (fC (.dat (.bool false)))) Vd.gNil)
  (gSeq (gSet 12 (fCal pSorted (aCons (fOt (nLc (iVal (fV 4)) [7] (nG 7) cYes (fCal pLen (aCons (fO 7) aNil)))) aNil)))
  (gSeq (gKill [13] (gFor (iVal (fTup (aCons (fCal F_turned (aCons (fV 1) aNil)) (aCons (fCal F_mirrored (aCons (fV 1) aNil)) (aCons (f1 pRevA (fO 1)) aNil))))) (nG 13) (gThenKill [13] (gIf (fT (f2 (pEq true) (fCal pSorted (aCons (fOt (nLc (iVal (fCal F_patches (aCons (fV 13) (aCons (fV 3) aNil)))) [7] (nG 7) cYes (fCal pLen (aCons (fO 7) aNil)))) aNil)) (fO 12))) (gRet (fC (.dat (.bool false)))) Vd.gNil))))
  (gSeq (gSet 14 (fOt (nDictZ (aCons (fOt (nLc (iVal (fCal F_letters (aCons (fV 1) aNil))) [17, 18] (tupG 2 (consG (nG 17) (consG (nG 18) nilG))) cYes (fV 17))) (aCons (fC (wS [102, 101, 100, 99, 98, 97])) aNil)))))
  (gSeq (gSet 15 (fCal pTuple (aCons (fOt (nLc (iVal (fV 1)) [7] (nG 7) cYes (fS1 pJoin (fC (wS [])) (fOt (nLc (iVal (fV 7)) [19] (nG 19) cYes (f2 pGet (fO 14) (fO 19))))))) aNil)))
  (gIf (fT (f2 (pEq true) (fCal F_patches (aCons (fV 15) (aCons (fV 3) aNil))) (fO 4))) (gRet (fC (.dat (.bool false)))) Vd.gNil)))))))))))) ([.fz X, .fz (wB b), .fz (wCs (allC b)), .fz (wI k), .un, .un, .un, .un, .un, .un, .un, .un, .un, .un, .un, .un, .un, .un, .un, .un] : Rho) = .ok (.nx [.fz X, .fz (wB b), .fz (wCs (allC b)), .un, .un, .un, .un, .un, .un, .un, .un, .un, .un, .un, .un, .un, .un, .un, .un, .un]) := by
  have hfi : ∀ c ∈ firsts b k, Vd.ins b c = true := fun c hc => (firsts_mem.mp hc).1
  have hfl : (firsts b k).length ≤ 25 := Nat.le_trans (nodup_le (firsts_reps (k := k) g).nd (firsts_reps g).sub) h25
  have hpl : (parted b k).length ≤ 25 := by rw [parted_len g]; exact hfl
  have hff : (parted b k).flatten.length ≤ 64 := by have := (parted_inv (k := k) g).len g; rw [(parted_inv (k := k) g).fl] at this; exact this
  have h8 := g.h8
  have gm := mirB_good g
  -- the last patch
  have fne : firsts b k ≠ [] := by
    intro e
    have h1 := g.h1; have w1 := g.w1
    have i0 : Vd.ins b (0, 0) = true := ins_iff.mpr ⟨by omega, by simp; omega, by omega, by simp; omega⟩
    obtain ⟨c, hc, _⟩ := (firsts_reps (k := k) g).all (0, 0) (allC_mem.mpr i0)
    rw [e] at hc; cases hc
  let c := (firsts b k).getLast fne
  have hcF : c ∈ firsts b k := List.getLast_mem fne
  have hci := hfi c hcF
  have e_last : parted b k = ((firsts b k).dropLast.map (patch b k)) ++ [patch b k c] := by
    rw [parted_form g]
    conv => lhs; rw [← List.dropLast_concat_getLast fne]
    rw [List.map_append]; rfl
  have e_lst : W.dat (.list ((parted b k).map pCs)) = W.dat (.list ((((firsts b k).dropLast.map (patch b k)).map pCs) ++ [pCs (patch b k c)])) := by
    rw [e_last, List.map_append]; rfl
  have hne : patch b k c ≠ [] := fun e => by
    have := patch_mem.mpr (Sm.refl g (k := k) hci); rw [e] at this; cases this
  let d := (patch b k c).getLast hne
  have hd : Sm b k c d := patch_mem.mp (List.getLast_mem hne)
  have hdi := Sm.ins g hci hd
  refine (st_kill (is := [3, 4, 5, 6, 7, 8, 9, 10, 11, 12, 13, 14, 15]) (ρ' := s11 X b k (.fz (wPs (parted b k))) (.fz (wNum b (numAt (parted b k)))) .un .un .un .un .un (.fz (wCs (firsts b k))) (.fz (wIs (srtI (sizN b k)))) .un (.fz (.dK (dSs ((srtN b.flatten).zip back6)))) (.fz (wB (renB b)))) ?_).trans rfl
  refine Eq.trans (seq_nx (ρ' := s11 X b k (.fz (wPs (parted b k))) .un .un .un .un .un .un .un .un .un .un .un) (st_set (cal_ok (st_cons rfl (st_cons rfl st_nil)) (D_patches g hk)))) ?_
  refine Eq.trans (seq_if (or2 (ne_no (x := wCs (allC b)) (y := wCs (allC b)) (st_cal1' (x := wCs (parted b k).flatten) (st_cal1' (x := wPs (parted b k)) rfl (D_law_all g k)) ?_) rfl (by rw [pEq_Cs]; simp)) (ne_no (x := wI (parted b k).length) (y := wI (parted b k).length) (st_cal1' rfl (pLen_Ps _)) (cal_ok (st_cons rfl (st_cons rfl st_nil)) (D_how_many g hk)) (by rw [pEq_I]; simp)))) ?_
  · rw [pSorted_Cs _ (by unfold sizeLine; omega), srtC_flat g k]
  refine Eq.trans (seq_nx (ρ' := s11 X b k (.fz (wPs (parted b k))) (.fz (wNum b (numAt (parted b k)))) .un .un .un .un .un .un .un .un .un .un) (st_set (cal_ok (st_cons rfl (st_cons rfl st_nil)) (D_numbered g hk)))) ?_
  refine Eq.trans (seq_nx (ρ' := s11 X b k (.fz (wPs (parted b k))) (.fz (wNum b (numAt (parted b k)))) .un .un .un .un .un .un .un .un .un .un) ?_) ?_
  · show gFor _ _ _ (s11 X b k (.fz (wPs (parted b k))) (.fz (wNum b (numAt (parted b k)))) .un .un .un .un .un .un .un .un .un .un) = _
    rw [gFor_inv encP ((parted b k).zipIdx 0) (fun _ : Unit => s11 X b k (.fz (wPs (parted b k))) (.fz (wNum b (numAt (parted b k)))) .un .un .un .un .un .un .un .un .un .un) (fun s _ => s) (fun q _ => ∀ x ∈ q, (parted b k)[x.2]? = some x.1) () ?_ rfl ?_ ?_]
    · unfold iL
      rw [st_cons (w := wPs (parted b k)) rfl st_nil, bindok]; exact enum1_Ps _
    · intro q hq
      have : (q.1, q.2) ∈ (parted b k).zipIdx 0 := hq
      rw [List.mem_zipIdx_iff_getElem?] at this; exact this
    · intro q r s hq
      exact ⟨row11 g h25 hk X (hq q List.mem_cons_self), fun x hx => hq x (List.mem_cons_of_mem _ hx)⟩
  refine Eq.trans (seq_nx (ρ' := s11 X b k (.fz (wPs (parted b k))) (.fz (wNum b (numAt (parted b k)))) .un .un .un .un .un (.fz (wCs (firsts b k))) .un .un .un .un) (st_ownfrz2 (t := .L ((firsts b k).map pC)) (D_firsts _ 7 _ (by simp) g (st_items rfl (items_Ps _))))) ?_
  refine Eq.trans (seq_if (or2 (ne_no (x := wCs (firsts b k)) (y := wCs (firsts b k)) rfl (st_cal1' (x := wCs (firsts b k)) rfl ?_) (by rw [pEq_Cs]; simp)) (ne_no (x := wCs (patch b k c)) (y := wCs (patch b k c)) (cal_ok (st_cons (w := wB b) rfl (st_cons (w := wC d) (st_2 (x := wCs (patch b k c)) (y := wI (-1)) (get_m (l := ((firsts b k).dropLast.map (patch b k)).map pCs) (congrArg R.ok e_lst)) rfl (pGet_CsL _ hne)) (st_cons (w := wI k) rfl st_nil))) ?_) (get_m (l := ((firsts b k).dropLast.map (patch b k)).map pCs) (congrArg R.ok e_lst)) (by rw [pEq_Cs]; simp)))) ?_
  · rw [pSorted_Cs _ (by unfold sizeLine; omega), srtC_lt (firsts_lt b k)]
  · rw [D_patch_of g hk hdi, patch_eq g hci hd]
  refine Eq.trans (seq_nx (ρ' := s11 X b k (.fz (wPs (parted b k))) (.fz (wNum b (numAt (parted b k)))) .un .un .un .un .un (.fz (wCs (firsts b k))) (.fz (wIs (srtI (sizN b k)))) .un .un .un) (st_set (st_cal1' (x := wIs (sizN b k)) ((st_ot (nLc_all wCs (parted b k) (fun p => .int ((p.length : Nat) : Int)) (st_items rfl (items_Ps _)) (by unfold sizeLine; omega) fun p hp => ⟨_, rfl, rfl, st_cal1' rfl (pLen_Cs _)⟩)).trans ?_) (pSorted_Is _ (by unfold sizN sizeLine; rw [List.length_map]; omega))))) ?_
  · show R.ok (W.dat (.list _)) = R.ok (W.dat (.list _))
    unfold sizN
    rw [List.map_map]; rfl
  refine Eq.trans (seq_nx (ρ' := s11 X b k (.fz (wPs (parted b k))) (.fz (wNum b (numAt (parted b k)))) .un .un .un .un .un (.fz (wCs (firsts b k))) (.fz (wIs (srtI (sizN b k)))) .un .un .un) ?_) ?_
  · show gFor _ _ _ (s11 X b k (.fz (wPs (parted b k))) (.fz (wNum b (numAt (parted b k)))) .un .un .un .un .un (.fz (wCs (firsts b k))) (.fz (wIs (srtI (sizN b k)))) .un .un .un) = _
    rw [gFor_inv (fun t : Bd => wB t) [turnB b, mirB b, b.reverse] (fun _ : Unit => s11 X b k (.fz (wPs (parted b k))) (.fz (wNum b (numAt (parted b k)))) .un .un .un .un .un (.fz (wCs (firsts b k))) (.fz (wIs (srtI (sizN b k)))) .un .un .un) (fun s _ => s) (fun q _ => ∀ t ∈ q, Good t ∧ ∃ φ ψ, Iso b t k φ ψ) () ?_ rfl ?_ ?_]
    · refine st_items (w := .dat (.tuple [pB (turnB b), pB (mirB b), pB b.reverse])) (st_tup (ds := [pB (turnB b), pB (mirB b), pB b.reverse]) (st_cons (st_cal1' rfl (D_turned g)) (st_cons (st_cal1' rfl (D_mirrored g)) (st_cons (st_f1 (x := wB b) rfl (pRevA_B b)) st_nil))) (by simp)) rfl
    · intro t ht
      have ht : t = turnB b ∨ t = mirB b ∨ t = b.reverse := by simpa using ht
      rcases ht with rfl | rfl | rfl
      · exact ⟨turnB_good g, _, _, turn_iso g k⟩
      · exact ⟨gm, _, _, mi_iso g k⟩
      · exact ⟨rev_good g, _, _, fl_iso g k⟩
    · intro t q s hq
      obtain ⟨gt, φ, ψ, I⟩ := hq t List.mem_cons_self
      refine ⟨?_, fun x hx => hq x (List.mem_cons_of_mem _ hx)⟩
      refine (st_kill (is := [13]) (ρ' := s11 X b k (.fz (wPs (parted b k))) (.fz (wNum b (numAt (parted b k)))) .un .un .un .un .un (.fz (wCs (firsts b k))) (.fz (wIs (srtI (sizN b k)))) (.fz (wB t)) .un .un) ?_).trans rfl
      exact sizes11 g h25 hf25 hk gt I (f := fV 13) (cal_ok (st_cons rfl (st_cons rfl st_nil)) (D_patches gt hk)) rfl rfl
  refine Eq.trans (seq_nx (ρ' := s11 X b k (.fz (wPs (parted b k))) (.fz (wNum b (numAt (parted b k)))) .un .un .un .un .un (.fz (wCs (firsts b k))) (.fz (wIs (srtI (sizN b k)))) .un (.fz (.dK (dSs ((srtN b.flatten).zip back6)))) .un) (st_set (st_dz (L := srtN b.flatten) (st_cons ((st_ot (nLc_all (fun p : Nat × Nat => .dat (pLt p)) (lettersL b) (fun p => .str (S [p.1])) (st_items (cal_ok (st_cons rfl st_nil) (D_letters g hf25)) ?_) ?_ fun p hp => ⟨_, rfl, rfl, rfl⟩)).trans ?_) (st_cons rfl st_nil)) (srtN_nodup _) (srt_len g)))) ?_
  · show items (.dat (.list ((lettersL b).map pLt))) = _
    simp only [items, List.map_map]; rfl
  · have := srt_len g
    unfold lettersL sizeLine; rw [List.length_map]; omega
  · show R.ok (W.dat (.list _)) = R.ok (W.dat (.list _))
    unfold lettersL
    rw [List.map_map]; rfl
  refine Eq.trans (seq_nx (ρ' := s11 X b k (.fz (wPs (parted b k))) (.fz (wNum b (numAt (parted b k)))) .un .un .un .un .un (.fz (wCs (firsts b k))) (.fz (wIs (srtI (sizN b k)))) .un (.fz (.dK (dSs ((srtN b.flatten).zip back6)))) (.fz (wB (renB b)))) (st_set (st_cal1' (x := .dat (.list ((renB b).map pR))) ((st_ot (nLc_all wR b (fun row => pR (row.map (re6 (srtN b.flatten)))) (st_items rfl (items_B _)) (by unfold sizeLine; omega) fun row hr => ⟨_, rfl, rfl, ?_⟩)).trans ?_) (pTuple_R _)))) ?_
  · have hrl := g.rl hr
    refine st_S1 (l := []) (y := .dat (.list (row.map fun c => pR [re6 (srtN b.flatten) c]))) rfl ((st_ot (nLc_all (fun c : Nat => wS [c]) row (fun c => pR [re6 (srtN b.flatten) c]) (st_items (w := wR row) rfl (items_R _)) (by unfold sizeLine; omega) fun c hc => ⟨_, rfl, rfl, ?_⟩)).trans rfl) ?_
    · obtain ⟨i, h1, _, h3, h4⟩ := re6_in (srt_len g) (srtN_mem.mpr (List.mem_flatten.mpr ⟨row, hr, hc⟩))
      refine st_2 (x := .dK (dSs ((srtN b.flatten).zip back6))) (y := wS [c]) rfl rfl ?_
      show (dLook (.dK (dSs ((srtN b.flatten).zip back6))) (wS [c])).bind (optW .dat) = _
      rw [dLook_S, bindok, lk_S, h4]; rfl
    · have := pJoin_S (row.map (re6 (srtN b.flatten))) (by rw [List.length_map]; omega)
      rw [List.map_map] at this
      exact this
  · show R.ok (W.dat (.list _)) = R.ok (W.dat (.list _))
    unfold renB mapB
    rw [List.map_map]; rfl
  refine if_no (ne_no (x := wPs (parted b k)) (y := wPs (parted b k)) (cal_ok (st_cons (w := wB (renB b)) rfl (st_cons (w := wI k) rfl st_nil)) ?_) rfl (by rw [pEq_Ps]; simp))
  rw [D_patches (ren_good g) hk, ren_parted g k]
end

theorem D_law {xs : List Int} (hx : xs.length ≤ 63) : F_law [wX xs] = .ok (bv true) := by
  have g := lawBoard_good xs 0 (most := 5) (by omega) (by omega)
  have e_board := D_law_board hx (at_ := 0) (most := 5) (by omega) (by omega) (by omega) (by omega)
  have hlen := lawBoard_len xs 0 (most := 5) (by omega)
  generalize lawBoard xs 0 5 = b at g e_board hlen
  have hall : (allC b).length ≤ 25 := by
    unfold allC
    rw [flat_len _ (wd b) _ fun a _ => rowC_len b a, List.length_range]
    have := Nat.mul_le_mul hlen.1 hlen.2
    simpa using this
  have hf25 : b.flatten.length < 64 := by
    rw [flatten_ltr g, List.length_map]; omega
  have main : g_law [.fz (wX xs), .un, .un, .un, .un, .un, .un, .un, .un, .un, .un, .un, .un, .un, .un, .un, .un, .un, .un, .un] = .ok (.rt (bv true)) := by
    unfold g_law
    refine Eq.trans (seq_nx (ρ' := [.fz (wX xs), .fz (wB b), .un, .un, .un, .un, .un, .un, .un, .un, .un, .un, .un, .un, .un, .un, .un, .un, .un, .un]) (st_set (cal_ok (st_cons rfl (st_cons rfl (st_cons rfl st_nil))) e_board))) ?_
    refine Eq.trans (seq_nx (ρ' := [.fz (wX xs), .fz (wB b), .fz (wCs (allC b)), .un, .un, .un, .un, .un, .un, .un, .un, .un, .un, .un, .un, .un, .un, .un, .un, .un]) (st_set (cal_ok (st_cons rfl st_nil) (D_cells g)))) ?_
    refine Eq.trans (seq_nx (ρ' := [.fz (wX xs), .fz (wB b), .fz (wCs (allC b)), .un, .un, .un, .un, .un, .un, .un, .un, .un, .un, .un, .un, .un, .un, .un, .un, .un]) ?_) ?_
    · show gFor _ _ _ [.fz (wX xs), .fz (wB b), .fz (wCs (allC b)), .un, .un, .un, .un, .un, .un, .un, .un, .un, .un, .un, .un, .un, .un, .un, .un, .un] = _
      rw [gFor_inv (fun k : Int => wI k) [4, 8] (fun _ : Unit => [.fz (wX xs), .fz (wB b), .fz (wCs (allC b)), .un, .un, .un, .un, .un, .un, .un, .un, .un, .un, .un, .un, .un, .un, .un, .un, .un]) (fun s _ => s) (fun q _ => ∀ k ∈ q, k = 4 ∨ k = 8) () (st_items (w := .dat (.tuple [.int 4, .int 8])) (st_tup (ds := [.int 4, .int 8]) rfl (by simp)) rfl) rfl (fun k hk => by simpa using hk) ?_]
      intro k q s hq
      exact ⟨turn11 g hall hf25 (hq k List.mem_cons_self) (wX xs), fun x hx => hq x (List.mem_cons_of_mem _ hx)⟩
    · refine st_ret (st_2 (x := wI (parted b 8).length) (y := wI (parted b 4).length) (cal_ok (st_cons rfl (st_cons rfl st_nil)) (D_how_many g (.inr rfl))) (cal_ok (st_cons rfl (st_cons rfl st_nil)) (D_how_many g (.inl rfl))) ?_)
      show R.ok (bv (decide _)) = _
      have := count_eight g
      congr 2
      exact decide_eq_true (by omega)
  show (g_law [.fz (wX xs), .un, .un, .un, .un, .un, .un, .un, .un, .un, .un, .un, .un, .un, .un, .un, .un, .un, .un, .un]).bind outW = _
  rw [main]; rfl
end Cp

namespace Cp
open L2 PyProof.Rows PySem PySem.Spec Vd

def dfs : List He.DefD := [dD "is_number" (topS 10),
  dD "is_board" (topS 11),
  dD "need_board" (topS 12),
  dD "need_ways" (topS 13),
  dD "is_cell" (topS 14),
  dD "need_cell" (topS 15),
  dD "cells" (topS 16),
  dD "letter_at" (topS 17),
  dD "near" (topS 18),
  dD "beside" (topS 19),
  dD "turned" (topS 20),
  dD "mirrored" (topS 21),
  dD "letters" (topS 22),
  dD "need_both" (topS 24),
  dD "spread" (topS 25),
  dD "patch_of" (topS 26),
  dD "parted" (topS 27),
  dD "patches" (topS 28),
  dD "how_many" (topS 29),
  dD "places" (topS 30),
  dD "numbered" (topS 31),
  dD "_law_cell" (topS 33),
  dD "_law_drawn" (topS 34),
  dD "_law_board" (topS 35),
  dD "_law_cells" (topS 36),
  dD "_law_beside" (topS 37),
  dD "_law_all" (topS 38),
  dD "law" (topS 39)]
def fas : List He.Fa := [.glo "is_number",
  .glo "is_board",
  .glo "need_board",
  .glo "need_ways",
  .glo "is_cell",
  .glo "need_cell",
  .glo "cells",
  .glo "letter_at",
  .glo "near",
  .glo "beside",
  .glo "turned",
  .glo "mirrored",
  .glo "letters",
  .glo "need_both",
  .glo "spread",
  .glo "patch_of",
  .glo "parted",
  .glo "patches",
  .glo "how_many",
  .glo "places",
  .glo "numbered",
  .glo "_law_cell",
  .glo "_law_drawn",
  .glo "_law_board",
  .glo "_law_cells",
  .glo "_law_beside",
  .glo "_law_all",
  .glo "law",
  .free "all",
  .free "bool",
  .free "dict",
  .free "enumerate",
  .free "int",
  .free "isinstance",
  .free "len",
  .free "range",
  .free "set",
  .free "sorted",
  .free "str",
  .free "tuple",
  .free "zip",
  .str "LETTERS" (S [97, 98, 99, 100, 101, 102]),
  .int "MOST" (8),
  .exc "NoBoard",
  .glo "NoBoard",
  .exc "NoCell",
  .glo "NoCell",
  .exc "NoWays",
  .glo "NoWays"]
def css : List Ck := [.con "STEPS4" (.tuple [.tuple [.int (-1), .int (0)], .tuple [.int (0), .int (-1)], .tuple [.int (0), .int (1)], .tuple [.int (1), .int (0)]]),
  .con "STEPS8" (.tuple [.tuple [.int (-1), .int (-1)], .tuple [.int (-1), .int (0)], .tuple [.int (-1), .int (1)], .tuple [.int (0), .int (-1)], .tuple [.int (0), .int (1)], .tuple [.int (1), .int (-1)], .tuple [.int (1), .int (0)], .tuple [.int (1), .int (1)]])]
abbrev Rw : PySem.W.OpenRow := PySem.W.OpenLaw.row PySem.Challenge.rw_cellpatches_k11_whole_patches
abbrev hk : PySem.W.Hook := hookV 4 fas dfs css
def ob (s : PySem.W.SharedT) : AlV := obsVG 4 fas dfs css (HandSHeadRun.getT s)
theorem ob_eq (s : PySem.W.SharedT) : ob s = hk.obs s.abs := obsVG_eq (HandSHeadRun.getT_eq s)
def loose0 : List Str := ["__name__", "PatchError", "NoBoard", "NoWays", "NoCell", "LETTERS", "MOST", "STEPS4", "STEPS8", "is_number", "is_board", "need_board", "need_ways", "is_cell", "need_cell", "cells", "letter_at", "near", "beside", "turned", "mirrored", "letters", "need_both", "spread", "patch_of", "parted", "patches", "how_many", "places", "numbered"]
def loose1 : List Str := ["_law_cell", "_law_drawn", "_law_board", "_law_cells", "_law_beside", "_law_all"]
def loose : List Str := loose0 ++ loose1
theorem run (w : World) : HandSHeadRun.RunEq Rw (PySem.W.view Rw.prog [39]) hk ob 20000 loose w := by
  intro os
  kernel_rfl
theorem txt {K : PySem.W.Frag} {h : Heap} {mg : Str → Option Value} (X : K.In h) (G : h.Ns mainGlobals mg) (c : He.SaysD fas dfs K) (cc : css.all (ckB K) = true) : Txt K mg where
  n_all := He.free_ok X G (c.fact 28 (f := .free "all") rfl)
  n_bool := He.free_ok X G (c.fact 29 (f := .free "bool") rfl)
  n_dict := He.free_ok X G (c.fact 30 (f := .free "dict") rfl)
  n_enumerate := He.free_ok X G (c.fact 31 (f := .free "enumerate") rfl)
  n_int := He.free_ok X G (c.fact 32 (f := .free "int") rfl)
  n_isinstance := He.free_ok X G (c.fact 33 (f := .free "isinstance") rfl)
  n_len := He.free_ok X G (c.fact 34 (f := .free "len") rfl)
  n_range := He.free_ok X G (c.fact 35 (f := .free "range") rfl)
  n_set := He.free_ok X G (c.fact 36 (f := .free "set") rfl)
  n_sorted := He.free_ok X G (c.fact 37 (f := .free "sorted") rfl)
  n_str := He.free_ok X G (c.fact 38 (f := .free "str") rfl)
  n_tuple := He.free_ok X G (c.fact 39 (f := .free "tuple") rfl)
  n_zip := He.free_ok X G (c.fact 40 (f := .free "zip") rfl)
  c_LETTERS := conS (He.str_ok X G (c.fact 41 (f := .str "LETTERS" (S [97, 98, 99, 100, 101, 102])) rfl))
  c_MOST := conI (He.int_ok X G (c.fact 42 (f := .int "MOST" (8)) rfl))
  c_STEPS4 := conB_ok X G (ck_con (List.all_eq_true.mp cc _ (List.mem_of_getElem? (i := 0) rfl)))
  c_STEPS8 := conB_ok X G (ck_con (List.all_eq_true.mp cc _ (List.mem_of_getElem? (i := 1) rfl)))
  x_NoBoard := excK_of X G c "NoBoard" 43 44 rfl rfl
  x_NoCell := excK_of X G c "NoCell" 45 46 rfl rfl
  x_NoWays := excK_of X G c "NoWays" 47 48 rfl rfl
  d_is_number := defK_of X G c "is_number" (topS 10) ["thing", "low", "high"] 0 0 rfl rfl (fun _ _ _ _ _ _ us hl => match us, hl with | [_, _, _], _ => rfl)
  d_is_board := defK_of X G c "is_board" (topS 11) ["thing"] 1 1 rfl rfl (fun _ _ _ _ _ _ us hl => match us, hl with | [_], _ => rfl)
  d_need_board := defK_of X G c "need_board" (topS 12) ["board"] 2 2 rfl rfl (fun _ _ _ _ _ _ us hl => match us, hl with | [_], _ => rfl)
  d_need_ways := defK_of X G c "need_ways" (topS 13) ["ways"] 3 3 rfl rfl (fun _ _ _ _ _ _ us hl => match us, hl with | [_], _ => rfl)
  d_is_cell := defK_of X G c "is_cell" (topS 14) ["board", "thing"] 4 4 rfl rfl (fun _ _ _ _ _ _ us hl => match us, hl with | [_, _], _ => rfl)
  d_need_cell := defK_of X G c "need_cell" (topS 15) ["board", "cell"] 5 5 rfl rfl (fun _ _ _ _ _ _ us hl => match us, hl with | [_, _], _ => rfl)
  d_cells := defK_of X G c "cells" (topS 16) ["board"] 6 6 rfl rfl (fun _ _ _ _ _ _ us hl => match us, hl with | [_], _ => rfl)
  d_letter_at := defK_of X G c "letter_at" (topS 17) ["board", "cell"] 7 7 rfl rfl (fun _ _ _ _ _ _ us hl => match us, hl with | [_, _], _ => rfl)
  d_near := defK_of X G c "near" (topS 18) ["board", "cell", "ways"] 8 8 rfl rfl (fun _ _ _ _ _ _ us hl => match us, hl with | [_, _, _], _ => rfl)
  d_beside := defK_of X G c "beside" (topS 19) ["board", "cell", "ways"] 9 9 rfl rfl (fun _ _ _ _ _ _ us hl => match us, hl with | [_, _, _], _ => rfl)
  d_turned := defK_of X G c "turned" (topS 20) ["board"] 10 10 rfl rfl (fun _ _ _ _ _ _ us hl => match us, hl with | [_], _ => rfl)
  d_mirrored := defK_of X G c "mirrored" (topS 21) ["board"] 11 11 rfl rfl (fun _ _ _ _ _ _ us hl => match us, hl with | [_], _ => rfl)
  d_letters := defK_of X G c "letters" (topS 22) ["board"] 12 12 rfl rfl (fun _ _ _ _ _ _ us hl => match us, hl with | [_], _ => rfl)
  d_need_both := defK_of X G c "need_both" (topS 24) ["board", "ways"] 13 13 rfl rfl (fun _ _ _ _ _ _ us hl => match us, hl with | [_, _], _ => rfl)
  d_spread := defK_of X G c "spread" (topS 25) ["board", "cell", "ways"] 14 14 rfl rfl (fun _ _ _ _ _ _ us hl => match us, hl with | [_, _, _], _ => rfl)
  d_patch_of := defK_of X G c "patch_of" (topS 26) ["board", "cell", "ways"] 15 15 rfl rfl (fun _ _ _ _ _ _ us hl => match us, hl with | [_, _, _], _ => rfl)
  d_parted := defK_of X G c "parted" (topS 27) ["board", "ways"] 16 16 rfl rfl (fun _ _ _ _ _ _ us hl => match us, hl with | [_, _], _ => rfl)
  d_patches := defK_of X G c "patches" (topS 28) ["board", "ways"] 17 17 rfl rfl (fun _ _ _ _ _ _ us hl => match us, hl with | [_, _], _ => rfl)
  d_how_many := defK_of X G c "how_many" (topS 29) ["board", "ways"] 18 18 rfl rfl (fun _ _ _ _ _ _ us hl => match us, hl with | [_, _], _ => rfl)
  d_places := defK_of X G c "places" (topS 30) ["some"] 19 19 rfl rfl (fun _ _ _ _ _ _ us hl => match us, hl with | [_], _ => rfl)
  d_numbered := defK_of X G c "numbered" (topS 31) ["board", "ways"] 20 20 rfl rfl (fun _ _ _ _ _ _ us hl => match us, hl with | [_, _], _ => rfl)
  d_law_cell := defK_of X G c "_law_cell" (topS 33) ["_law_script", "_law_k"] 21 21 rfl rfl (fun _ _ _ _ _ _ us hl => match us, hl with | [_, _], _ => rfl)
  d_law_drawn := defK_of X G c "_law_drawn" (topS 34) ["_law_script", "_law_k", "_law_many"] 22 22 rfl rfl (fun _ _ _ _ _ _ us hl => match us, hl with | [_, _, _], _ => rfl)
  d_law_board := defK_of X G c "_law_board" (topS 35) ["_law_script", "_law_at", "_law_most"] 23 23 rfl rfl (fun _ _ _ _ _ _ us hl => match us, hl with | [_, _, _], _ => rfl)
  d_law_cells := defK_of X G c "_law_cells" (topS 36) ["_law_board_here"] 24 24 rfl rfl (fun _ _ _ _ _ _ us hl => match us, hl with | [_], _ => rfl)
  d_law_beside := defK_of X G c "_law_beside" (topS 37) ["_law_board_here", "_law_cell_here", "_law_ways"] 25 25 rfl rfl (fun _ _ _ _ _ _ us hl => match us, hl with | [_, _, _], _ => rfl)
  d_law_all := defK_of X G c "_law_all" (topS 38) ["_law_rows"] 26 26 rfl rfl (fun _ _ _ _ _ _ us hl => match us, hl with | [_], _ => rfl)
  d_law := defK_of X G c "law" (topS 39) ["_law_script"] 27 27 rfl rfl (fun _ _ _ _ _ _ us hl => match us, hl with | [_], _ => rfl)
end Cp
open PySem PySem.W PySem.Calls PyProof.Rows
theorem PySem.Challenge.cw_cellpatches_k11_whole_patches_holds : PySem.Challenge.rw_cellpatches_k11_whole_patches.Holds := by
  w_on; o_law
  refine HandSHeadRun.head_any (r := OpenLaw.row PySem.Challenge.rw_cellpatches_k11_whole_patches) (q := view (OpenLaw.row PySem.Challenge.rw_cellpatches_k11_whole_patches).prog [39]) (H := Cp.hk) (ob := Cp.ob) (M := 20000) (loose := Cp.loose) (d := HandSHeadRun.topDef (OpenLaw.row PySem.Challenge.rw_cellpatches_k11_whole_patches).prog 39) (kwd := []) Cp.ob_eq
    (by kernel_rfl) (fun s => by kernel_rfl) Cp.run (by kernel_rfl) (by kernel_rfl) (by kernel_rfl) (by rfl) (by first | assumption | decide +kernel) (by decide +kernel) ⟨rfl, rfl, rfl, rfl, rfl, by decide +kernel⟩ ?hw ?hc
  case hw => w_witness2
  case hc =>
    refine Vd.walk_ofV (l := PySem.Challenge.rw_cellpatches_k11_whole_patches) (n := 63) (k := 7) (x := "_law_script") rfl (by decide) (by kernel_rfl) ⟨rfl, by decide, by decide⟩ ?F
    intro w mg fa h Y G hmg0
    obtain ⟨K, KX, c, cc⟩ := Y
    have hmg : mg ("law" : PySem.Str) = some (.ref fa) := by
      have e : (HandSHeadRun.topDef (OpenLaw.row PySem.Challenge.rw_cellpatches_k11_whole_patches).prog 39).name = ("law" : PySem.Str) := by kernel_rfl
      rw [← e]
      exact hmg0
    have T := Cp.txt KX G c cc
    exact Vd.end_of KX hmg (fun base => Cp.law_fn T) T.d_law (fun _ _ _ _ _ _ _ => rfl) (Vd.law_sp fun ns hl => Cp.D_law hl)

