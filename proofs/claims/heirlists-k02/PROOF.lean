import PyProof.Rows.All
import Wide.All
import OpenK.AllK
import Wide.FinOn
import HandS.ForMost
import HandS.Exc
import HandS.ExcOwn
import HandS.WordsExc
import HandS.Flow
import HandS.Defaults
import HandS.CallSlots
import HandS.ExcInit
import HandS.ExcIs
import HandS.ExcField
import HandS.ExcValue
import HandS.Small
import HandS.HeadHook1
import KE.KExcIs
import HandS.HeadHook2
import KE.GoesMore
import KE.GoesEnum
import HandS.Iter
import HandS.Wide
import HandS.TupAny
import HandS.TupMul
import HandS.Style
import HandS.IsInst
import HandS.Deep
import HandS.Replace
import HandS.ExcCtx
import KE.DataCmp
import HandS.RaiseMore
import KE.SortData
import HandS.EndBits
import HandS.HeadEnd
import HandS.Set
import HandS.SetFor
import HandS.Strs
import PyProof.AutoSeq1
import HandS.Zip
import HandS.Codes
import KE.IntTextLaws
import HandS.HeadHook4
import HandS.Head0
import HandS.Head1
import HandS.Head2
import HandS.HeadHook3
import PySem.Challenge.RW_heirlists_k02_calls_looked_at
set_option Elab.async false
set_option linter.all false
set_option maxRecDepth 100000
set_option maxHeartbeats 4000000
namespace Ev
open PySem PySem.Spec PyProof.Rows L2

/-! ### data -/
inductive D where
  | non | bl (b : Bool) | int (i : Int) | str (s : Str)
  | lst (xs : List D) | tup (xs : List D)
  /-- a dict that changes no more, its keys numbers or texts -/
  | dic (ks : List Key) (xs : List D)
  /-- the script that is handed in -/
  | scr (ns : List Int)
  /-- an exception of a class of the program, its fields, the one stored last ahead -/
  | exv (c : Str) (ks : List Str) (xs : List D)

mutual
def D.dep : D → Nat
  | .lst xs => D.deps xs + 1
  | .tup xs => D.deps xs + 1
  | .non => 0 | .bl _ => 0 | .int _ => 0 | .str _ => 0 | .dic _ _ => 0 | .scr _ => 0 | .exv _ _ _ => 0
def D.deps : List D → Nat
  | [] => 0
  | x :: xs => max (D.dep x) (D.deps xs)
end
mutual
/-- no dict in it -/
def D.nod : D → Bool
  | .lst xs => D.nods xs
  | .tup xs => D.nods xs
  | .non => true | .bl _ => true | .int _ => true | .str _ => true | .dic _ _ => false | .scr _ => false | .exv _ _ _ => false
def D.nods : List D → Bool
  | [] => true
  | x :: xs => D.nod x && D.nods xs
end
mutual
/-- a == b -/
def D.eqv : D → D → Bool
  | .non, .non => true
  | .bl a, .bl b => a == b
  | .bl a, .int j => (if a then 1 else 0) == j
  | .int i, .bl b => i == (if b then 1 else 0)
  | .int i, .int j => i == j
  | .str x, .str y => x == y
  | .lst xs, .lst ys => D.eqvs xs ys
  | .tup xs, .tup ys => D.eqvs xs ys
  | _, _ => false
def D.eqvs : List D → List D → Bool
  | [], [] => true
  | x :: xs, y :: ys => D.eqv x y && D.eqvs xs ys
  | _, _ => false
end

/-- an exception object of the class cls, its dict at d -/
def exq (cls : Value) (d : Option Addr) (a : Addr) : HO := .ext fun h => ∃ (oe : Obj) (vs : Array Value), h.get? a = some oe ∧ Zc cls d oe ∧ oe.data = .fields vs
mutual
inductive RelD (K : PySem.W.Frag) (H : Hp) : V → D → Prop
  | non : RelD K H .non .non
  | bl (b : Bool) : RelD K H (.bl b) (.bl b)
  | int (i : Int) : RelD K H (.int i) (.int i)
  | str (x : Str) : RelD K H (.str x) (.str x)
  | lst {a : Addr} {xs : List V} {ds : List D} : H a = some (.lst xs) → RelDs K H xs ds → RelD K H (.ref a) (.lst ds)
  | scr {a : Addr} {ns : List Int} : SqL K H a (ns.map V.int) → RelD K H (.ref a) (.scr ns)
  | tup {a : Addr} {xs : List V} {ds : List D} : SqT K H a xs → RelDs K H xs ds → RelD K H (.ref a) (.tup ds)
  | dic {a : Addr} {ks : List Key} {xs : List V} {ds : List D} : H a = some (.dK (ks.zip xs)) → ks.length = xs.length → RelDs K H xs ds → RelD K H (.ref a) (.dic ks ds)
  | exv0 {a : Addr} {c : Str} : H a = some (exq (.ref (He.ga K c)) none a) → RelD K H (.ref a) (.exv c [] [])
  | exv {a dx : Addr} {c : Str} {ks : List Str} {xs : List V} {ds : List D} : H a = some (exq (.ref (He.ga K c)) (some dx) a) → H dx = some (.xd (ks.zip xs)) → ks.length = xs.length → RelDs K H xs ds → RelD K H (.ref a) (.exv c ks ds)
inductive RelDs (K : PySem.W.Frag) (H : Hp) : List V → List D → Prop
  | nil : RelDs K H [] []
  | cons {v : V} {vs : List V} {d : D} {ds : List D} : RelD K H v d → RelDs K H vs ds → RelDs K H (v :: vs) (d :: ds)
end

def Le (H H' : Hp) : Prop := ∀ a o, H a = some o → H' a = some o
theorem Le.refl (H : Hp) : Le H H := fun _ _ h => h
theorem Le.trans {H H1 H2 : Hp} (a : Le H H1) (b : Le H1 H2) : Le H H2 := fun c o h => b c o (a c o h)
theorem Le.sql {K : PySem.W.Frag} {H H' : Hp} {a : Addr} {xs : List V} (e : Le H H') (h : SqL K H a xs) : SqL K H' a xs := by
  rcases h with (h | ⟨o, h⟩) | h
  · exact .inl (.inl (e _ _ h))
  · exact .inl (.inr ⟨o, e _ _ h⟩)
  · exact .inr h
theorem Le.sqt {K : PySem.W.Frag} {H H' : Hp} {a : Addr} {xs : List V} (e : Le H H') (h : SqT K H a xs) : SqT K H' a xs := by
  rcases h with (h | ⟨o, h⟩) | h
  · exact .inl (.inl (e _ _ h))
  · exact .inl (.inr ⟨o, e _ _ h⟩)
  · exact .inr h
theorem Le.upd {H : Hp} {p : Addr} {o : HO} (h : H p = none) : Le H (upd H p o) := fun b x e => by
  rw [upd_ne (ne_of_none e h)]; exact e
mutual
theorem RelD.mono {K : PySem.W.Frag} {H H' : Hp} (e : Le H H') : ∀ {v : V} {d : D}, RelD K H v d → RelD K H' v d
  | _, _, .non => .non
  | _, _, .bl b => .bl b
  | _, _, .int i => .int i
  | _, _, .str x => .str x
  | _, _, .lst h r => .lst (e _ _ h) (RelDs.mono e r)
  | _, _, .scr h => .scr (e.sql h)
  | _, _, .tup h r => .tup (e.sqt h) (RelDs.mono e r)
  | _, _, .dic h l r => .dic (e _ _ h) l (RelDs.mono e r)
  | _, _, .exv0 h => .exv0 (e _ _ h)
  | _, _, .exv h h2 l r => .exv (e _ _ h) (e _ _ h2) l (RelDs.mono e r)
theorem RelDs.mono {K : PySem.W.Frag} {H H' : Hp} (e : Le H H') : ∀ {vs : List V} {ds : List D}, RelDs K H vs ds → RelDs K H' vs ds
  | _, _, .nil => .nil
  | _, _, .cons h r => .cons (RelD.mono e h) (RelDs.mono e r)
end
theorem RelDs.length {K : PySem.W.Frag} {H : Hp} : ∀ {vs : List V} {ds : List D}, RelDs K H vs ds → vs.length = ds.length
  | _, _, .nil => rfl
  | _, _, .cons _ r => by rw [List.length_cons, List.length_cons, RelDs.length r]
theorem RelDs.get {K : PySem.W.Frag} {H : Hp} : ∀ {vs : List V} {ds : List D}, RelDs K H vs ds → ∀ {i : Nat} {v : V}, vs[i]? = some v → ∃ d, ds[i]? = some d ∧ RelD K H v d
  | _, _, .nil, i, v, e => by simp at e
  | _, _, .cons h r, 0, v, e => by simp at e; subst e; exact ⟨_, rfl, h⟩
  | _, _, .cons h r, i + 1, v, e => by
    obtain ⟨d, h1, h2⟩ := RelDs.get r (i := i) (v := v) (by simpa using e)
    exact ⟨d, by simpa using h1, h2⟩
theorem RelDs.get' {K : PySem.W.Frag} {H : Hp} : ∀ {vs : List V} {ds : List D}, RelDs K H vs ds → ∀ {i : Nat} {d : D}, ds[i]? = some d → ∃ v, vs[i]? = some v ∧ RelD K H v d
  | _, _, .nil, i, v, e => by simp at e
  | _, _, .cons h r, 0, v, e => by simp at e; subst e; exact ⟨_, rfl, h⟩
  | _, _, .cons h r, i + 1, v, e => by
    obtain ⟨d, h1, h2⟩ := RelDs.get' r (i := i) (d := v) (by simpa using e)
    exact ⟨d, by simpa using h1, h2⟩
theorem RelDs.append {K : PySem.W.Frag} {H : Hp} : ∀ {vs us : List V} {ds es : List D}, RelDs K H vs ds → RelDs K H us es → RelDs K H (vs ++ us) (ds ++ es)
  | _, _, _, _, .nil, s => s
  | _, _, _, _, .cons h r, s => .cons h (RelDs.append r s)
theorem RelDs.take {K : PySem.W.Frag} {H : Hp} : ∀ (n : Nat) {vs : List V} {ds : List D}, RelDs K H vs ds → RelDs K H (vs.take n) (ds.take n)
  | 0, _, _, _ => by simp only [List.take_zero]; exact .nil
  | n + 1, _, _, .nil => by simp only [List.take_nil]; exact .nil
  | n + 1, _, _, .cons h r => by simp only [List.take_succ_cons]; exact .cons h (RelDs.take n r)
theorem RelDs.drop {K : PySem.W.Frag} {H : Hp} : ∀ (n : Nat) {vs : List V} {ds : List D}, RelDs K H vs ds → RelDs K H (vs.drop n) (ds.drop n)
  | 0, _, _, r => by simpa using r
  | n + 1, _, _, .nil => by simp only [List.drop_nil]; exact .nil
  | n + 1, _, _, .cons h r => by simp only [List.drop_succ_cons]; exact RelDs.drop n r

/-! ### values, cells, the store -/
inductive W where
  | d (x : D)
  | cell (n : Nat)
inductive Cell where
  /-- a list that grows -/
  | lst (xs : List D)
  /-- a dict that changes, its keys numbers or texts -/
  | dic (kvs : List (Key × D))
  /-- what changes no more -/
  | frz (x : D)
  /-- an instance of a class of the program, its fields -/
  | obj (c : Str) (fs : List (Str × W))
abbrev Store := List Cell
/-- an exception: its class's name, its fields -/
structure Xv where
  cls : Str
  ks : List Str
  xs : List D
inductive R (α : Type) where
  | ok (a : α) (st : Store)
  | exc (x : Xv) (st : Store)
  | bad
def R.bind {α β : Type} : R α → (α → Store → R β) → R β
  | .ok a st, f => f a st
  | .exc x st, _ => .exc x st
  | .bad, _ => .bad
@[simp] theorem R.bind_exc {α β : Type} (x : Xv) (st : Store) (f : α → Store → R β) : (R.exc x st : R α).bind f = .exc x st := rfl
@[simp] theorem R.bind_ok {α β : Type} (a : α) (st : Store) (f : α → Store → R β) : (R.ok a st).bind f = f a st := rfl
@[simp] theorem R.bind_bad {α β : Type} (f : α → Store → R β) : (R.bad : R α).bind f = .bad := rfl

inductive RelKV (K : PySem.W.Frag) (H : Hp) : List (Key × V) → List (Key × D) → Prop
  | nil : RelKV K H [] []
  | cons {k : Key} {v : V} {d : D} {vs : List (Key × V)} {ds : List (Key × D)} : RelD K H v d → RelKV K H vs ds → RelKV K H ((k, v) :: vs) ((k, d) :: ds)
theorem RelKV.mono {K : PySem.W.Frag} {H H' : Hp} (e : Le H H') : ∀ {vs : List (Key × V)} {ds : List (Key × D)}, RelKV K H vs ds → RelKV K H' vs ds
  | _, _, .nil => .nil
  | _, _, .cons h r => .cons (h.mono e) (RelKV.mono e r)

def RelW (K : PySem.W.Frag) (Hd : Hp) (io : List Addr) : W → V → Prop
  | .d x, v => RelD K Hd v x
  | .cell n, v => ∃ a, v = .ref a ∧ io[n]? = some a
inductive RelFs (K : PySem.W.Frag) (Hd : Hp) (io : List Addr) : List (Str × V) → List (Str × W) → Prop
  | nil : RelFs K Hd io [] []
  | cons {f : Str} {v : V} {w : W} {vs : List (Str × V)} {ws : List (Str × W)} : RelW K Hd io w v → RelFs K Hd io vs ws → RelFs K Hd io ((f, v) :: vs) ((f, w) :: ws)
theorem RelW.more {K : PySem.W.Frag} {Hd Hd' : Hp} {io r : List Addr} (e : Le Hd Hd') {w : W} {v : V} (h : RelW K Hd io w v) : RelW K Hd' (io ++ r) w v := by
  cases w with
  | d x => exact RelD.mono e h
  | cell n =>
    obtain ⟨a, h1, h2⟩ := h
    exact ⟨a, h1, by rw [List.getElem?_append_left (List.getElem?_eq_some_iff.mp h2).1]; exact h2⟩
theorem RelFs.more {K : PySem.W.Frag} {Hd Hd' : Hp} {io r : List Addr} (e : Le Hd Hd') : ∀ {vs : List (Str × V)} {ws : List (Str × W)}, RelFs K Hd io vs ws → RelFs K Hd' (io ++ r) vs ws
  | _, _, .nil => .nil
  | _, _, .cons h k => .cons (h.more e) (RelFs.more e k)
theorem RelFs.le {K : PySem.W.Frag} {Hd Hd' : Hp} {io : List Addr} (e : Le Hd Hd') {vs : List (Str × V)} {ws : List (Str × W)} (h : RelFs K Hd io vs ws) : RelFs K Hd' io vs ws := by
  have := RelFs.more (r := []) e h
  rwa [List.append_nil] at this
def CellOk (K : PySem.W.Frag) (Hd : Hp) (io : List Addr) (H : Hp) (a : Addr) : Cell → Prop
  | .lst ds => Hd a = none ∧ ∃ vs, H a = some (.lst vs) ∧ RelDs K Hd vs ds
  | .dic kvs => Hd a = none ∧ ∃ vs, H a = some (.dK vs) ∧ RelKV K Hd vs kvs
  | .frz d => RelD K Hd (.ref a) d
  | .obj c fs => Hd a = none ∧ ∃ dx vs, H a = some (.ins (He.ga K c) dx vs) ∧ H dx = some (.own a) ∧ Hd dx = none ∧ dx ∉ io ∧ RelFs K Hd io vs fs

structure Rl (K : PySem.W.Frag) (Hd : Hp) (io : List Addr) (st : Store) (H : Hp) : Prop where
  sub : Le Hd H
  nd : io.Nodup
  len : io.length = st.length
  cel : ∀ (n : Nat) a c, io[n]? = some a → st[n]? = some c → CellOk K Hd io H a c
  liv : ∀ a ∈ io, H a ≠ none

structure Ext (Hd : Hp) (io : List Addr) (H Hd' : Hp) (io' : List Addr) (H' : Hp) : Prop where
  hd : Le Hd Hd'
  new : ∀ a, Hd a = none → Hd' a ≠ none → H a = none ∨ a ∈ io
  pre : ∃ r, io' = io ++ r ∧ ∀ a ∈ r, H a = none
  fr : ∀ a o, H a = some o → a ∉ io → H' a = some o
  liv : ∀ a, H' a = none → H a = none
theorem Ext.refl {Hd : Hp} {io : List Addr} {H : Hp} : Ext Hd io H Hd io H :=
  ⟨Le.refl _, fun _ h1 h2 => absurd h1 h2, ⟨[], by simp, by simp⟩, fun _ _ h _ => h, fun _ h => h⟩
theorem Ext.trans {Hd Hd1 Hd2 H H1 H2 : Hp} {io io1 io2 : List Addr} (a : Ext Hd io H Hd1 io1 H1) (b : Ext Hd1 io1 H1 Hd2 io2 H2) : Ext Hd io H Hd2 io2 H2 := by
  obtain ⟨r1, e1, n1⟩ := a.pre
  obtain ⟨r2, e2, n2⟩ := b.pre
  refine ⟨a.hd.trans b.hd, fun x h1 h2 => ?_, ⟨r1 ++ r2, by rw [e2, e1, List.append_assoc], fun x hx => ?_⟩, fun x o h hx => ?_, fun x h => a.liv x (b.liv x h)⟩
  · by_cases h : Hd1 x = none
    · rcases b.new x h h2 with z | z
      · exact .inl (a.liv x z)
      · rw [e1] at z
        rcases List.mem_append.mp z with z | z
        · exact .inr z
        · exact .inl (n1 x z)
    · exact a.new x h1 h
  · rcases List.mem_append.mp hx with z | z
    · exact n1 x z
    · exact a.liv x (n2 x z)
  · refine b.fr x o (a.fr x o h hx) fun z => ?_
    rw [e1] at z
    rcases List.mem_append.mp z with z | z
    · exact hx z
    · rw [n1 x z] at h; cases h

theorem RelW.mono {K : PySem.W.Frag} {Hd Hd' H H' : Hp} {io io' : List Addr} (e : Ext Hd io H Hd' io' H') {w : W} {v : V} (h : RelW K Hd io w v) : RelW K Hd' io' w v := by
  cases w with
  | d x => exact RelD.mono e.hd h
  | cell n =>
    obtain ⟨a, h1, h2⟩ := h
    obtain ⟨r, e1, _⟩ := e.pre
    refine ⟨a, h1, ?_⟩
    rw [e1, List.getElem?_append_left (List.getElem?_eq_some_iff.mp h2).1]
    exact h2
/-- the slots -/
structure RelS (K : PySem.W.Frag) (Hd : Hp) (io : List Addr) (ro : List (Option W)) (sg : L2.St) : Prop where
  len : ro.length = sg.length
  get : ∀ (i : Nat) w, ro[i]? = some (some w) → ∃ v, sg[i]? = some (some v) ∧ RelW K Hd io w v
theorem RelS.mono {K : PySem.W.Frag} {Hd Hd' H H' : Hp} {io io' : List Addr} {ro : List (Option W)} {sg : L2.St} (e : Ext Hd io H Hd' io' H') (h : RelS K Hd io ro sg) : RelS K Hd' io' ro sg :=
  ⟨h.len, fun i w q => let ⟨v, h1, h2⟩ := h.get i w q; ⟨v, h1, h2.mono e⟩⟩
theorem RelS.set {K : PySem.W.Frag} {Hd : Hp} {io : List Addr} {ro : List (Option W)} {sg : L2.St} (h : RelS K Hd io ro sg) (i : Nat) {w : W} {v : V} (r : RelW K Hd io w v) : RelS K Hd io (ro.set i (some w)) (sg.set i (some v)) := by
  refine ⟨by rw [List.length_set, List.length_set, h.len], fun j u q => ?_⟩
  by_cases hj : i = j
  · subst hj
    have hl : i < ro.length := by
      have := (List.getElem?_eq_some_iff.mp q).1
      rwa [List.length_set] at this
    rw [List.getElem?_set_self hl] at q
    cases q
    exact ⟨v, by rw [List.getElem?_set_self (by rw [← h.len]; exact hl)], r⟩
  · rw [List.getElem?_set_ne hj] at q
    obtain ⟨x, h1, h2⟩ := h.get j u q
    exact ⟨x, by rw [List.getElem?_set_ne hj]; exact h1, h2⟩
theorem RelS.setNone {K : PySem.W.Frag} {Hd : Hp} {io : List Addr} {ro : List (Option W)} {sg : L2.St} (h : RelS K Hd io ro sg) (i : Nat) : RelS K Hd io (ro.set i none) (sg.set i none) := by
  refine ⟨by rw [List.length_set, List.length_set, h.len], fun j u q => ?_⟩
  by_cases hj : i = j
  · subst hj
    have hl : i < ro.length := by
      have := (List.getElem?_eq_some_iff.mp q).1
      rwa [List.length_set] at this
    rw [List.getElem?_set_self hl] at q
    cases q
  · rw [List.getElem?_set_ne hj] at q
    obtain ⟨x, h1, h2⟩ := h.get j u q
    exact ⟨x, by rw [List.getElem?_set_ne hj]; exact h1, h2⟩
def wipeW (ro : List (Option W)) : List Nat → List (Option W)
  | [] => ro
  | v :: vs => (wipeW ro vs).set v none
theorem RelS.wipe {K : PySem.W.Frag} {Hd : Hp} {io : List Addr} {ro : List (Option W)} {sg : L2.St} (h : RelS K Hd io ro sg) : ∀ vs : List Nat, RelS K Hd io (wipeW ro vs) (L2.wipe sg vs)
  | [] => h
  | v :: vs => (RelS.wipe h vs).setNone v

/-- what an expression's result asks -/
def Post {α β : Type} (K : PySem.W.Frag) (Hd : Hp) (io : List Addr) (H : Hp) (Rel : Hp → List Addr → α → β → Prop) (Q : β → Hp → Prop) : R α → Prop
  | .ok w st' => ∀ v Hd' io' H', Ext Hd io H Hd' io' H' → Rl K Hd' io' st' H' → Rel Hd' io' w v → Q v H'
  | .exc _ _ => False
  | .bad => False
theorem Post.bind {α β γ δ : Type} {K : PySem.W.Frag} {Hd : Hp} {io : List Addr} {H : Hp} {Rel : Hp → List Addr → α → β → Prop} {Rel2 : Hp → List Addr → γ → δ → Prop} {r : R α} {f : α → Store → R γ} {Q : δ → Hp → Prop}
    {Q1 : β → Hp → Prop} (h : Post K Hd io H Rel2 Q (r.bind f))
    (k : ∀ w st1 v Hd1 io1 H1, r = .ok w st1 → Ext Hd io H Hd1 io1 H1 → Rl K Hd1 io1 st1 H1 → Rel Hd1 io1 w v → Post K Hd1 io1 H1 Rel2 Q (f w st1) → Q1 v H1) : Post K Hd io H Rel Q1 r := by
  cases r with
  | bad => exact h
  | exc x st => exact h
  | ok w st1 =>
    intro v Hd1 io1 H1 e1 l1 r1
    refine k w st1 v Hd1 io1 H1 rfl e1 l1 r1 ?_
    have h' : Post K Hd io H Rel2 Q (f w st1) := h
    cases hf : f w st1 with
    | bad => rw [hf] at h'; exact h'
    | exc x st => rw [hf] at h'; exact h'
    | ok u st2 =>
      rw [hf] at h'
      intro v2 Hd2 io2 H2 e2 l2 r2
      exact h' v2 Hd2 io2 H2 (e1.trans e2) l2 r2
/-- nothing changed -/
theorem Post.here {α β : Type} {K : PySem.W.Frag} {Hd : Hp} {io : List Addr} {H : Hp} {Rel : Hp → List Addr → α → β → Prop} {Q : β → Hp → Prop} {w : α} {st : Store} {v : β} (h : Post K Hd io H Rel Q (.ok w st)) (l : Rl K Hd io st H) (r : Rel Hd io w v) : Q v H :=
  h v Hd io H Ext.refl l r
/-- a new thing that stays -/
theorem Rl.newD {K : PySem.W.Frag} {Hd : Hp} {io : List Addr} {st : Store} {H : Hp} (l : Rl K Hd io st H) {p : Addr} (hp : H p = none) (o : HO) : Rl K (upd Hd p o) io st (upd H p o) ∧ Ext Hd io H (upd Hd p o) io (upd H p o) := by
  have hd : Hd p = none := by
    cases q : Hd p with
    | none => rfl
    | some u => rw [l.sub _ _ q] at hp; cases hp
  have np : ∀ a ∈ io, a ≠ p := fun a ha z => l.liv a ha (by rw [z]; exact hp)
  have le := Le.upd (o := o) hd
  refine ⟨⟨fun a u e => ?_, l.nd, l.len, fun n a c h1 h2 => ?_, fun a ha => by rw [upd_ne (np a ha)]; exact l.liv a ha⟩, ⟨le, fun a h1 h2 => ?_, ⟨[], by simp, by simp⟩, fun a u h _ => Le.upd hp a u h, fun a h => ?_⟩⟩
  · by_cases z : a = p
    · rw [z, upd_same] at e ⊢; exact e
    · rw [upd_ne z] at e ⊢; exact l.sub _ _ e
  · have hc := l.cel n a c h1 h2
    have na := np a (List.mem_of_getElem? h1)
    cases c with
    | lst ds =>
      obtain ⟨h3, vs, h4, h5⟩ := hc
      exact ⟨by rw [upd_ne na]; exact h3, vs, by rw [upd_ne na]; exact h4, h5.mono le⟩
    | dic kvs =>
      obtain ⟨h3, vs, h4, h5⟩ := hc
      exact ⟨by rw [upd_ne na]; exact h3, vs, by rw [upd_ne na]; exact h4, h5.mono le⟩
    | frz ds => exact RelD.mono le hc
    | obj c fs =>
      obtain ⟨h3, dx, vs, h4, h5, h6, h7, h8⟩ := hc
      have nx : dx ≠ p := fun z => by rw [z, hp] at h5; cases h5
      exact ⟨by rw [upd_ne na]; exact h3, dx, vs, by rw [upd_ne na]; exact h4, by rw [upd_ne nx]; exact h5, by rw [upd_ne nx]; exact h6, h7, h8.le le⟩
  · by_cases z : a = p
    · rw [z]; exact .inl hp
    · rw [upd_ne z] at h2; exact absurd h1 h2
  · by_cases z : a = p
    · rw [z]; exact hp
    · rw [upd_ne z] at h; exact h
theorem relD_newTup {K : PySem.W.Frag} {Hd : Hp} {p : Addr} {vs : List V} {ds : List D} (hp : Hd p = none) (r : RelDs K Hd vs ds) : RelD K (upd Hd p (.tup vs)) (.ref p) (.tup ds) :=
  .tup (.inl (.inl upd_same)) (r.mono (Le.upd hp))
theorem relD_newLst {K : PySem.W.Frag} {Hd : Hp} {p : Addr} {vs : List V} {ds : List D} (hp : Hd p = none) (r : RelDs K Hd vs ds) : RelD K (upd Hd p (.lst vs)) (.ref p) (.lst ds) :=
  .lst upd_same (r.mono (Le.upd hp))
theorem Rl.fresh {K : PySem.W.Frag} {Hd : Hp} {io : List Addr} {st : Store} {H : Hp} (l : Rl K Hd io st H) {p : Addr} (hp : H p = none) : Hd p = none := by
  cases q : Hd p with
  | none => rfl
  | some u => rw [l.sub _ _ q] at hp; cases hp
theorem Post.newTup {K : PySem.W.Frag} {Hd : Hp} {io : List Addr} {H : Hp} {Q : VK} {st : Store} {ds : List D} {vs : List V} (h : Post K Hd io H (RelW K) Q (.ok (.d (.tup ds)) st)) (l : Rl K Hd io st H) (r : RelDs K Hd vs ds) {p : Addr} (hp : H p = none) : Q (.ref p) (upd H p (.tup vs)) := by
  obtain ⟨l', e⟩ := l.newD hp (.tup vs)
  exact h _ _ _ _ e l' (relD_newTup (l.fresh hp) r)
theorem Post.newLst {K : PySem.W.Frag} {Hd : Hp} {io : List Addr} {H : Hp} {Q : VK} {st : Store} {ds : List D} {vs : List V} (h : Post K Hd io H (RelW K) Q (.ok (.d (.lst ds)) st)) (l : Rl K Hd io st H) (r : RelDs K Hd vs ds) {p : Addr} (hp : H p = none) : Q (.ref p) (upd H p (.lst vs)) := by
  obtain ⟨l', e⟩ := l.newD hp (.lst vs)
  exact h _ _ _ _ e l' (relD_newLst (l.fresh hp) r)
/-- a new cell -/
theorem Rl.newC {K : PySem.W.Frag} {Hd : Hp} {io : List Addr} {st : Store} {H : Hp} (l : Rl K Hd io st H) {p : Addr} (hp : H p = none) {o : HO} {c : Cell} (hc : CellOk K Hd (io ++ [p]) (upd H p o) p c) :
    Rl K Hd (io ++ [p]) (st ++ [c]) (upd H p o) ∧ Ext Hd io H Hd (io ++ [p]) (upd H p o) := by
  have np : ∀ a ∈ io, a ≠ p := fun a ha z => l.liv a ha (by rw [z]; exact hp)
  refine ⟨⟨l.sub.trans (Le.upd hp), ?_, by simp [l.len], fun n a c' h1 h2 => ?_, fun a ha => ?_⟩, ⟨Le.refl _, fun a h1 h2 => absurd h1 h2, ⟨[p], rfl, fun a ha => by rw [List.mem_singleton.mp ha]; exact hp⟩, fun a u h _ => Le.upd hp a u h, fun a h => ?_⟩⟩
  · refine List.nodup_append.mpr ⟨l.nd, by simp, fun a ha b hb => ?_⟩
    rw [List.mem_singleton.mp hb]; exact np a ha
  · by_cases hn : n < io.length
    · rw [List.getElem?_append_left hn] at h1
      rw [List.getElem?_append_left (by rw [← l.len]; exact hn)] at h2
      have hc := l.cel n a c' h1 h2
      have na := np a (List.mem_of_getElem? h1)
      cases c' with
      | lst ds =>
        obtain ⟨h3, vs, h4, h5⟩ := hc
        exact ⟨h3, vs, by rw [upd_ne na]; exact h4, h5⟩
      | dic kvs =>
        obtain ⟨h3, vs, h4, h5⟩ := hc
        exact ⟨h3, vs, by rw [upd_ne na]; exact h4, h5⟩
      | frz ds => exact hc
      | obj c fs =>
        obtain ⟨h3, dx, vs, h4, h5, h6, h7, h8⟩ := hc
        have nx : dx ≠ p := fun z => by rw [z, hp] at h5; cases h5
        refine ⟨h3, dx, vs, by rw [upd_ne na]; exact h4, by rw [upd_ne nx]; exact h5, h6, fun z => ?_, h8.more (Le.refl _)⟩
        rcases List.mem_append.mp z with z | z
        · exact h7 z
        · exact nx (List.mem_singleton.mp z)
    · rw [List.getElem?_append_right (by omega)] at h1
      rw [List.getElem?_append_right (by rw [← l.len]; omega)] at h2
      have e0 : n - io.length = 0 := by
        have := (List.getElem?_eq_some_iff.mp h1).1
        simp at this; omega
      rw [e0] at h1
      rw [← l.len, e0] at h2
      simp at h1 h2
      subst h1 h2
      exact hc
  · rcases List.mem_append.mp ha with z | z
    · rw [upd_ne (np a z)]; exact l.liv a z
    · rw [List.mem_singleton.mp z, upd_same]; simp
  · by_cases z : a = p
    · rw [z]; exact hp
    · rw [upd_ne z] at h; exact h
/-- a cell written -/
theorem Rl.write {K : PySem.W.Frag} {Hd : Hp} {io : List Addr} {st : Store} {H : Hp} (l : Rl K Hd io st H) {n : Nat} {p : Addr} (hp : io[n]? = some p) {o : HO} {c : Cell} (hc : CellOk K Hd io (upd H p o) p c) (hd : Hd p = none) :
    Rl K Hd io (st.set n c) (upd H p o) ∧ Ext Hd io H Hd io (upd H p o) := by
  have hm := List.mem_of_getElem? hp
  refine ⟨⟨fun a u e => ?_, l.nd, by simp [l.len], fun m a c' h1 h2 => ?_, fun a ha => ?_⟩, ⟨Le.refl _, fun a h1 h2 => absurd h1 h2, ⟨[], by simp, by simp⟩, fun a u h hn => ?_, fun a h => ?_⟩⟩
  · rw [upd_ne (fun z => by rw [z, hd] at e; cases e)]; exact l.sub _ _ e
  · by_cases hmn : n = m
    · subst hmn
      have hl : n < st.length := by rw [← l.len]; exact (List.getElem?_eq_some_iff.mp hp).1
      rw [List.getElem?_set_self hl] at h2
      cases h2
      rw [hp] at h1; cases h1
      exact hc
    · rw [List.getElem?_set_ne hmn] at h2
      have na : a ≠ p := fun z => by
        subst z
        obtain ⟨i1, e1⟩ := List.getElem?_eq_some_iff.mp hp
        obtain ⟨i2, e2⟩ := List.getElem?_eq_some_iff.mp h1
        exact hmn ((List.getElem_inj l.nd).mp (e1.trans e2.symm))
      have hc' := l.cel m a c' h1 h2
      cases c' with
      | lst ds =>
        obtain ⟨h3, vs, h4, h5⟩ := hc'
        exact ⟨h3, vs, by rw [upd_ne na]; exact h4, h5⟩
      | dic kvs =>
        obtain ⟨h3, vs, h4, h5⟩ := hc'
        exact ⟨h3, vs, by rw [upd_ne na]; exact h4, h5⟩
      | frz ds => exact hc'
      | obj c fs =>
        obtain ⟨h3, dx, vs, h4, h5, h6, h7, h8⟩ := hc'
        have nx : dx ≠ p := fun z => h7 (by rw [z]; exact hm)
        exact ⟨h3, dx, vs, by rw [upd_ne na]; exact h4, by rw [upd_ne nx]; exact h5, h6, h7, h8⟩
  · by_cases z : a = p
    · rw [z, upd_same]; simp
    · rw [upd_ne z]; exact l.liv a ha
  · rw [upd_ne (fun z => hn (by rw [z]; exact hm))]; exact h
  · by_cases z : a = p
    · rw [z, upd_same] at h; cases h
    · rw [upd_ne z] at h; exact h
theorem RelKV.parts {K : PySem.W.Frag} {H : Hp} : ∀ {vs : List (Key × V)} {kvs : List (Key × D)}, RelKV K H vs kvs → vs = (kvs.map (·.1)).zip (vs.map (·.2)) ∧ (kvs.map (·.1)).length = (vs.map (·.2)).length ∧ RelDs K H (vs.map (·.2)) (kvs.map (·.2))
  | _, _, .nil => ⟨rfl, rfl, .nil⟩
  | _, _, .cons h r => by
    obtain ⟨h1, h2, h3⟩ := RelKV.parts r
    refine ⟨?_, by simpa using h2, .cons h h3⟩
    rw [List.map_cons, List.map_cons, List.zip_cons_cons, ← h1]
/-- a growing thing frozen -/
theorem Rl.freezeG {K : PySem.W.Frag} {Hd : Hp} {io : List Addr} {st : Store} {H : Hp} (l : Rl K Hd io st H) {n : Nat} {p : Addr} {o : HO} {d : D} (hp : io[n]? = some p) (hd : Hd p = none) (hv : H p = some o) (rd : RelD K (upd Hd p o) (.ref p) d) :
    Rl K (upd Hd p o) io (st.set n (.frz d)) H ∧ Ext Hd io H (upd Hd p o) io H := by
  have hm := List.mem_of_getElem? hp
  have le := Le.upd (o := o) hd
  refine ⟨⟨fun a u e => ?_, l.nd, by simp [l.len], fun m a c' h1 h2 => ?_, l.liv⟩, ⟨le, fun a h1 h2 => ?_, ⟨[], by simp, by simp⟩, fun a u h hn => h, fun a h => h⟩⟩
  · by_cases z : a = p
    · rw [z, upd_same] at e; cases e; rw [z]; exact hv
    · rw [upd_ne z] at e; exact l.sub _ _ e
  · by_cases hmn : n = m
    · subst hmn
      have hl : n < st.length := by rw [← l.len]; exact (List.getElem?_eq_some_iff.mp hp).1
      rw [List.getElem?_set_self hl] at h2
      cases h2
      rw [hp] at h1; cases h1
      exact rd
    · rw [List.getElem?_set_ne hmn] at h2
      have na : a ≠ p := fun z => by
        subst z
        obtain ⟨i1, e1⟩ := List.getElem?_eq_some_iff.mp hp
        obtain ⟨i2, e2⟩ := List.getElem?_eq_some_iff.mp h1
        exact hmn ((List.getElem_inj l.nd).mp (e1.trans e2.symm))
      have hc' := l.cel m a c' h1 h2
      cases c' with
      | lst ds =>
        obtain ⟨h3, vs, h4, h5⟩ := hc'
        exact ⟨by rw [upd_ne na]; exact h3, vs, h4, h5.mono le⟩
      | dic kvs =>
        obtain ⟨h3, vs, h4, h5⟩ := hc'
        exact ⟨by rw [upd_ne na]; exact h3, vs, h4, h5.mono le⟩
      | frz ds => exact RelD.mono le hc'
      | obj c fs =>
        obtain ⟨h3, dx, vs, h4, h5, h6, h7, h8⟩ := hc'
        have nx : dx ≠ p := fun z => h7 (by rw [z]; exact hm)
        exact ⟨by rw [upd_ne na]; exact h3, dx, vs, h4, h5, by rw [upd_ne nx]; exact h6, h7, h8.le le⟩
  · by_cases z : a = p
    · rw [z]; exact .inr hm
    · rw [upd_ne z] at h2; exact absurd h1 h2
theorem Rl.freeze {K : PySem.W.Frag} {Hd : Hp} {io : List Addr} {st : Store} {H : Hp} (l : Rl K Hd io st H) {n : Nat} {p : Addr} {ds : List D} (hp : io[n]? = some p) (hs : st[n]? = some (.lst ds)) :
    ∃ Hd', Rl K Hd' io (st.set n (.frz (.lst ds))) H ∧ Ext Hd io H Hd' io H ∧ RelD K Hd' (.ref p) (.lst ds) := by
  obtain ⟨hd, vs, hv, r⟩ := l.cel n p _ hp hs
  have rd := relD_newLst hd r
  obtain ⟨l2, e2⟩ := l.freezeG hp hd hv rd
  exact ⟨_, l2, e2, rd⟩
theorem Rl.freezeD {K : PySem.W.Frag} {Hd : Hp} {io : List Addr} {st : Store} {H : Hp} (l : Rl K Hd io st H) {n : Nat} {p : Addr} {kvs : List (Key × D)} (hp : io[n]? = some p) (hs : st[n]? = some (.dic kvs)) :
    ∃ Hd', Rl K Hd' io (st.set n (.frz (.dic (kvs.map (·.1)) (kvs.map (·.2))))) H ∧ Ext Hd io H Hd' io H ∧ RelD K Hd' (.ref p) (.dic (kvs.map (·.1)) (kvs.map (·.2))) := by
  obtain ⟨hd, vs, hv, r⟩ := l.cel n p _ hp hs
  obtain ⟨h1, h2, h3⟩ := r.parts
  have rd : RelD K (upd Hd p (.dK vs)) (.ref p) (.dic (kvs.map (·.1)) (kvs.map (·.2))) := .dic (by rw [upd_same, ← h1]) h2 (h3.mono (Le.upd hd))
  obtain ⟨l2, e2⟩ := l.freezeG hp hd hv rd
  exact ⟨_, l2, e2, rd⟩
/-- as data that is only looked at -/
def peek (st : Store) : W → Option D
  | .d x => some x
  | .cell n => match st[n]? with
    | some (.lst ds) => some (.lst ds)
    | some (.frz d) => some d
    | _ => none
/-- as data that is kept -/
def keepD (st : Store) : W → R D
  | .d x => .ok x st
  | .cell n => match st[n]? with
    | some (.lst ds) => .ok (.lst ds) (st.set n (.frz (.lst ds)))
    | some (.dic kvs) => .ok (.dic (kvs.map (·.1)) (kvs.map (·.2))) (st.set n (.frz (.dic (kvs.map (·.1)) (kvs.map (·.2)))))
    | some (.frz d) => .ok d st
    | some (.obj _ _) => .bad
    | none => .bad
/-- v reads as d at H, what is in it stays -/
def PkD (K : PySem.W.Frag) (Hd H : Hp) (v : V) (d : D) : Prop := RelD K Hd v d ∨ ∃ a vs ds, v = .ref a ∧ d = .lst ds ∧ H a = some (.lst vs) ∧ RelDs K Hd vs ds
theorem PkD.rel {K : PySem.W.Frag} {Hd H : Hp} {v : V} {d : D} (le : Le Hd H) (h : PkD K Hd H v d) : RelD K H v d := by
  rcases h with h | ⟨a, vs, ds, rfl, rfl, h1, h2⟩
  · exact h.mono le
  · exact .lst h1 (h2.mono le)
theorem PkD.list {K : PySem.W.Frag} {Hd H : Hp} {v : V} {ds : List D} (le : Le Hd H) (h : PkD K Hd H v (.lst ds)) : ∃ a vs, v = .ref a ∧ H a = some (.lst vs) ∧ RelDs K Hd vs ds := by
  rcases h with h | ⟨a, vs, es, rfl, e, h1, h2⟩
  · cases h with
    | lst hs hr => exact ⟨_, _, rfl, le _ _ hs, hr⟩
  · cases e
    exact ⟨a, vs, rfl, h1, h2⟩
theorem PkD.tuple {K : PySem.W.Frag} {Hd H : Hp} {v : V} {ds : List D} (le : Le Hd H) (h : PkD K Hd H v (.tup ds)) : ∃ a vs, v = .ref a ∧ SqT K H a vs ∧ RelDs K Hd vs ds := by
  rcases h with h | ⟨a, vs, es, rfl, e, h1, h2⟩
  · cases h with
    | tup hs hr => exact ⟨_, _, rfl, le.sqt hs, hr⟩
  · cases e
theorem peek_ok {K : PySem.W.Frag} {Hd : Hp} {io : List Addr} {st : Store} {H : Hp} (l : Rl K Hd io st H) {w : W} {v : V} {d : D} (r : RelW K Hd io w v) (h : peek st w = some d) : PkD K Hd H v d := by
  cases w with
  | d x => cases h; exact .inl r
  | cell n =>
    obtain ⟨a, rfl, ha⟩ := r
    unfold peek at h
    dsimp only at h
    cases hs : st[n]? with
    | none => rw [hs] at h; cases h
    | some c =>
      rw [hs] at h
      have hc := l.cel n a c ha hs
      cases c with
      | lst ds =>
        cases h
        obtain ⟨_, vs, h1, h2⟩ := hc
        exact .inr ⟨a, vs, ds, rfl, rfl, h1, h2⟩
      | dic _ => cases h
      | frz ds => cases h; exact .inl hc
      | obj _ _ => cases h
def RelDv (K : PySem.W.Frag) (Hd : Hp) (_ : List Addr) (d : D) (v : V) : Prop := RelD K Hd v d
theorem keepD_ok {K : PySem.W.Frag} {Hd : Hp} {io : List Addr} {st st' : Store} {H : Hp} (l : Rl K Hd io st H) {w : W} {v : V} {d : D} (r : RelW K Hd io w v) (h : keepD st w = .ok d st') :
    ∃ Hd', Ext Hd io H Hd' io H ∧ Rl K Hd' io st' H ∧ RelD K Hd' v d := by
  cases w with
  | d x => cases h; exact ⟨Hd, Ext.refl, l, r⟩
  | cell n =>
    obtain ⟨a, rfl, ha⟩ := r
    unfold keepD at h
    dsimp only at h
    cases hs : st[n]? with
    | none => rw [hs] at h; cases h
    | some c =>
      rw [hs] at h
      cases c with
      | lst ds =>
        cases h
        obtain ⟨Hd', h2, h3, h4⟩ := l.freeze ha hs
        exact ⟨_, h3, h2, h4⟩
      | dic kvs =>
        cases h
        obtain ⟨Hd', h2, h3, h4⟩ := l.freezeD ha hs
        exact ⟨_, h3, h2, h4⟩
      | frz ds => cases h; exact ⟨Hd, Ext.refl, l, l.cel n a _ ha hs⟩
      | obj _ _ => cases h
/-- a new instance -/
theorem Rl.newX {K : PySem.W.Frag} {Hd : Hp} {io : List Addr} {st : Store} {H : Hp} (l : Rl K Hd io st H) {p : Addr} (hp : H p = none) (o : HO) : Rl K Hd io st (upd H p o) ∧ Ext Hd io H Hd io (upd H p o) := by
  have np : ∀ a ∈ io, a ≠ p := fun a ha z => l.liv a ha (by rw [z]; exact hp)
  refine ⟨⟨l.sub.trans (Le.upd hp), l.nd, l.len, fun n a c h1 h2 => ?_, fun a ha => by rw [upd_ne (np a ha)]; exact l.liv a ha⟩, ⟨Le.refl _, fun a h1 h2 => absurd h1 h2, ⟨[], by simp, by simp⟩, fun a u h _ => Le.upd hp a u h, fun a h => ?_⟩⟩
  · have hc := l.cel n a c h1 h2
    have na := np a (List.mem_of_getElem? h1)
    cases c with
    | lst ds =>
      obtain ⟨h3, vs, h4, h5⟩ := hc
      exact ⟨h3, vs, by rw [upd_ne na]; exact h4, h5⟩
    | dic kvs =>
      obtain ⟨h3, vs, h4, h5⟩ := hc
      exact ⟨h3, vs, by rw [upd_ne na]; exact h4, h5⟩
    | frz ds => exact hc
    | obj c fs =>
      obtain ⟨h3, dx, vs, h4, h5, h6, h7, h8⟩ := hc
      have nx : dx ≠ p := fun z => by rw [z, hp] at h5; cases h5
      exact ⟨h3, dx, vs, by rw [upd_ne na]; exact h4, by rw [upd_ne nx]; exact h5, h6, h7, h8⟩
  · by_cases z : a = p
    · rw [z]; exact hp
    · rw [upd_ne z] at h; exact h
theorem Rl.newO {K : PySem.W.Frag} {Hd : Hp} {io : List Addr} {st : Store} {H : Hp} (l : Rl K Hd io st H) {x dx : Addr} (c : Str) (hx : H x = none) (hd : H dx = none) (ne : dx ≠ x) :
    Rl K Hd (io ++ [x]) (st ++ [.obj c []]) (upd (upd H dx (.own x)) x (.ins (He.ga K c) dx [])) ∧ Ext Hd io H Hd (io ++ [x]) (upd (upd H dx (.own x)) x (.ins (He.ga K c) dx [])) := by
  obtain ⟨l1, e1⟩ := l.newX hd (.own x)
  have hx1 : upd H dx (.own x) x = none := by rw [upd_ne (Ne.symm ne)]; exact hx
  have hz : dx ∉ io ++ [x] := fun z => by
    rcases List.mem_append.mp z with z | z
    · exact l.liv dx z hd
    · exact ne (List.mem_singleton.mp z)
  obtain ⟨l2, e2⟩ := l1.newC (o := .ins (He.ga K c) dx []) (c := .obj c []) hx1 ⟨l.fresh hx, dx, [], upd_same, by rw [upd_ne ne, upd_same], l.fresh hd, hz, .nil⟩
  exact ⟨l2, e1.trans e2⟩
end Ev
set_option Elab.async false
set_option linter.all false
set_option maxRecDepth 100000
set_option maxHeartbeats 4000000
namespace Ev
open PySem PySem.Spec PyProof.Rows L2
/-! ### exceptions as values, tracked -/
theorem exq_ok {P : Program} {w : World} {H : Hp} {h : Heap} {a : Addr} {cls : Value} {d : Option Addr} {oe : Obj} {vs : Array Value} (e : h.get? a = some oe) (z : Zc cls d oe) (hd : oe.data = .fields vs) : ObjOk P w H h a (exq cls d a) :=
  ⟨⟨oe, vs, e, z, hd⟩, ⟨oe, e⟩, fun _ _ ⟨o, v, q, r⟩ k => ⟨o, v, k o q, r⟩⟩
theorem exq_at {P : Program} {w : World} {H : Hp} {h : Heap} {a : Addr} {cls : Value} {d : Option Addr} (hok : HOk P w H h) (e : H a = some (exq cls d a)) : ∃ oe vs, h.get? a = some oe ∧ Zc cls d oe ∧ oe.data = .fields vs := by
  have x : ObjOk P w H h a (.ext fun h => ∃ (oe : Obj) (vs : Array Value), h.get? a = some oe ∧ Zc cls d oe ∧ oe.data = .fields vs) := hok a _ e
  exact x.1
section
variable {X : Cx} {pins : List (Addr × Obj)} {σ : L2.St} {H : Hp} {s s' : Shared}
/-- the heap as it is with a new exception on it -/
theorem inv_exq {a : Addr} {oe : Obj} {vs : Array Value} {cls : Value} {d : Option Addr} (I : Inv X pins σ H s) (k : ∀ b o, s.heap.get? b = some o → s'.heap.get? b = some o) (hne : s.heap.get? a = none) (he : s'.heap.get? a = some oe) (hz : Zc cls d oe)
    (hd : oe.data = .fields vs) (na : H a = none) (os : s'.os = s.os) (ag : AllBare s'.gens) : Inv X pins σ (upd H a (exq cls d a)) s' := by
  have J := I.laidN (t' := s.toks) k hne na (exq_ok he hz hd)
  exact ⟨J.ok, os.trans J.os, ag, J.base, J.loc, J.cell, J.free, J.freeC, J.pin, J.hok, J.len⟩
theorem pe_of_mk {e : Expr} {t : L2.St → Hp → XK → Prop} (h : PMk X e t) : PE X e (fun σ H Q => t σ H fun cls d H' => ∀ a, H' a = none → Q (.ref a) (upd H' a (exq cls d a))) := by
  refine ⟨fun pins s σ H Q I q => wpAny_mono (h pins s σ H _ I q) (fun u s1 hu => ?_) fun _ _ x => x⟩
  obtain ⟨a, oe, vs, sI, H', cls, d, rfl, J, k, hne, ha, hz, hd, h1, na, os, ag, r, q⟩ := hu
  exact ⟨.ref a, _, inv_exq J k hne ha hz hd na os ag, rfl, q a na⟩
end
/-! ### an own __init__ that stores what it is handed -/
/-- what such an __init__ does -/
def spIni (K : PySem.W.Frag) (C : Addr) (fs : List Str) : Sp := fun vs H Q _ => ∃ a ys, vs = .ref a :: ys ∧ ys.length = fs.length ∧ H a = some (exo a C none) ∧
  ∀ dx H', H dx = none → dx ≠ a → H' a = some (exo a C (some dx)) → H' dx = some (exd dx (fs.zip ys).reverse) → (∀ b, b ≠ a → b ≠ dx → H' b = H b) → Q .non H'
/-- self.f = p -/
def iniS1 (self f p : Str) : Stmt → Bool
  | .Assign [.Attribute (.Name o _) g _] (.Name x _) _ => decide (o = self) && decide (g = f) && decide (x = p)
  | _ => false
/-- .. one by one -/
def iniSt (self : Str) : List Str → List Str → List Stmt → Bool
  | [], [], [] => true
  | f :: fs, p :: ps, b :: bs => iniS1 self f p b && iniSt self fs ps bs
  | _, _, _ => false
def noDoc : List Stmt → List Stmt
  | .Expr (.Constant (.str _) _ _) _ :: r => r
  | r => r
def iniBody (base self : Str) (fs ps : List Str) : List Stmt → Bool
  | .Expr (.Call (.Attribute (.Name y _) nm ap) [.Name o _, .Constant (.str _) _ _] [] cp) _ :: r => decide (y = base) && decide (nm = ("__init__" : Str)) && (ap.endLine == cp.line) && decide (o = self) && iniSt self fs ps r
  | _ => false
def namesIn (sc : Scope) (N : List Str) : Bool := N.all fun x => decide (sc.names.lookup x = some .local)
/-- what the class says -/
structure ExI (K : PySem.W.Frag) (C : Addr) (fs : List Str) : Prop where
  T : OexC K C
  no : ∀ f ∈ fs, PySem.W.findIn K (.ref C) f = some none
/-- what the class whose __init__ is called says -/
structure ExB (K : PySem.W.Frag) (L : Addr) : Prop where
  sp : PySem.W.specialIn K (.ref L) "__getattribute__" = some (some (.builtin "type.__getattribute__"))
  rd : ∃ mc, PySem.W.readsIn K L mc = true ∧ PySem.W.findCls K (.ref L) mc "__init__" = some (.val (.builtin "ValueError.__init__"))
/-- o.name(args), whatever o is -/
theorem call_attr {prog : Program} {w : World} {A : Around} {E : Value → Shared → Prop} {env : Env} {s : Shared} {o : Expr} {name : Str} {apos pos : Pos} {args : List Expr} {Q : Value → Shared → Prop}
    (hbase : attributeBase o name env (eval o env) = eval o env)
    (hfew : ((backTo pos (starEach args env)).all (fun x => !x.1) && (backToKw pos (keywordEach [] env)).all (fun x => x.1.isSome)
      && decide (args.length + ([] : List Keyword).length + (if ([] : List Keyword).isEmpty then 0 else 1) < 30)) = true)
    (hline : (apos.endLine == pos.line) = true)
    (h : wpAny (model prog w) A (eval o env) (fun ov s₁ => ∀ pl : Sem Bool, wpAny (model prog w) A (getMethod ov name pl) (fun fx s₂ => wpAny (model prog w) A (callWith pos fx.1 fx.2 (backTo pos (starEach args env)) (backToKw pos (keywordEach [] env))) Q E s₂) E s₁) E s) :
    wpAny (model prog w) A (eval (.Call (.Attribute o name apos) args [] pos) env) Q E s := by
  rw [arm_eval_Call, hbase]
  refine wpAny_bind (wpAny_mono h (fun ov s₁ h₁ => ?_) fun _ _ e => e)
  refine wpAny_bind (wpAny_standAt ?_)
  have hform : methodCallForm (args.length + ([] : List Keyword).length) (backTo pos (starEach args env)) (backToKw pos (keywordEach [] env)) = true := hfew
  have hpos : methodCallPos true o env apos pos = pure pos := by unfold methodCallPos; simp [hline]
  unfold methodCall
  rw [hform]
  refine wpAny_bind (wpAny_holding ?_)
  unfold calleeOf
  rw [if_pos rfl]
  exact wpAny_mono (h₁ _) (fun fx s₂ z => wpAny_bind (wpAny_of_eq hpos z)) fun _ _ e => e
section
variable {X : Cx} {o e : Expr} {es : List Expr} {ta : TA} {p1 p2 pos : Pos}
/-- B.__init__(self, ..), B an own class that has ValueError's -/
theorem pe_binit {x : Str} {L : Addr} (hg : Gl X x) (hm : X.mg x = some (.ref L)) (B : ExB X.K L) (ha : PA X (e :: es) ta) (hdb : (x == ("__debug__" : Str)) = false)
    (hfew : ((backTo pos (starEach (e :: es) X.env)).all (fun x => !x.1) && (backToKw pos (keywordEach [] X.env)).all (fun x => x.1.isSome)
      && decide ((e :: es).length + ([] : List Keyword).length + (if ([] : List Keyword).isEmpty then 0 else 1) < 30)) = true)
    (hline : (p2.endLine == pos.line) = true)
    (he : starEach (e :: es) X.env = (false, eval e X.env) :: starEach es X.env) (hpl : (backTo pos (starEach es X.env)).any (·.1) = false) :
    PE X (.Call (.Attribute (.Name x p1) "__init__" p2) (e :: es) [] pos) (tVeI X.K ta) := by
  refine ⟨fun pins s σ H Q I h => ?_⟩
  refine call_attr rfl hfew hline (ld_glob I hg hm (fun pl => ?_) hdb)
  obtain ⟨mc, rd, fc⟩ := B.rd
  refine PySem.W.method_cls I.kIn B.sp (PySem.W.cls_value I.kIn rd fc (by decide +kernel) ?_)
  show wpAny _ _ (callWith pos (Value.builtin "ValueError.__init__") [] (backTo pos (starEach (e :: es) X.env)) []) _ _ _
  refine PyProof.Rows.callWith_method1 (thn (ha.run pos pins _ σ H _ (I.tok _) h) fun us s1 ⟨vs, H1, I1, r1, a, C, ws, ev, hl, T, ea, q⟩ => ?_) he hpl
  subst ev
  cases r1 with
  | @cons _ u0 _ ur ra rw' =>
    obtain rfl : u0 = Value.ref a := ra
    have hlen : ur.length ≤ sizeLine := by
      rw [← Paired.length rw', sizeLine_eq]
      omega
    exact oinit_ok T I1 ea hlen fun s' J => ⟨.non, H1, J, rfl, q⟩
/-- the slot of a name -/
def SlO (X : Cx) (σ : L2.St) (x : Str) (v : V) : Prop := ∃ i : Nat, X.N[i]? = some x ∧ Vis X.env.scope x ∧ (x == ("__debug__" : Str)) = false ∧ (x == ("__classdict__" : Str)) = false ∧ σ[i]? = some (some v)
def SlN (X : Cx) (x : Str) : Prop := ∃ i : Nat, X.N[i]? = some x ∧ Vis X.env.scope x ∧ (x == ("__debug__" : Str)) = false ∧ (x == ("__classdict__" : Str)) = false
def tNm (X : Cx) (x : Str) : TE := fun σ H Q => ∃ v, SlO X σ x v ∧ Q v H
theorem pe_nm {x : Str} (hN : X.N.Nodup) (h : SlN X x) : PE X (.Name x pos) (tNm X x) := by
  obtain ⟨i, h1, h2, h3, h4⟩ := h
  refine ⟨fun pins s σ H Q I ⟨v, ⟨j, k1, _, _, _, k5⟩, q⟩ => ?_⟩
  have : i = j := by
    obtain ⟨l1, e1⟩ := List.getElem?_eq_some_iff.mp h1
    obtain ⟨l2, e2⟩ := List.getElem?_eq_some_iff.mp k1
    exact (List.getElem_inj hN).mp (e1.trans e2.symm)
  subst this
  exact (pe_var h1 h2 h3 h4).run pins s σ H Q I ⟨v, k5, q⟩
theorem swaps_name {x : Str} {p : Pos} {t : Option Expr} {l : Nat} {env : Env} : swapsWith (.Name x p) t l env = pure false := rfl
theorem ini_1 {self f p : Str} {b : Stmt} (h : iniS1 self f p b = true) (hN : X.N.Nodup) (hs : SlN X self) (hp : SlN X p) : PS X b (tOst X.K f (tNm X self) (tNm X p)) := by
  unfold iniS1 at h
  split at h
  · simp only [Bool.and_eq_true, decide_eq_true_eq] at h
    obtain ⟨⟨rfl, rfl⟩, rfl⟩ := h
    exact ps_ost (pe_nm hN hs) (pe_nm hN hp) swaps_name
  · cases h
/-- self.f = p, one by one, behind the first one -/
theorem pss_ini {C : Addr} {self : Str} (T : OexC X.K C) (hN : X.N.Nodup) (hs : SlN X self) : ∀ (fs ps : List Str) (body : List Stmt), iniSt self fs ps body = true → (∀ p ∈ ps, SlN X p) → (∀ f ∈ fs, PySem.W.findIn X.K (.ref C) f = some none) →
    PSs X body (fun D σ H => ∃ a dx fs0 ys, SlO X σ self (.ref a) ∧ Paired (SlO X σ) ps ys ∧ H a = some (exo a C (some dx)) ∧ H dx = some (exd dx fs0) ∧ dx ≠ a ∧ fs0.length + fs.length ≤ 900 ∧
      ∀ H', H' a = some (exo a C (some dx)) → H' dx = some (exd dx ((fs.zip ys).reverse ++ fs0)) → (∀ b, b ≠ a → b ≠ dx → H' b = H b) → D.nx σ H')
  | [], [], [], h, _, _ => ⟨fun pins s σ H D I ⟨a, dx, fs0, ys, _, _, h1, h2, _, _, q⟩ => pss_nil.run pins s σ H D I (q H h1 (by simpa using h2) fun _ _ _ => rfl)⟩
  | [], _ :: _, _, h, _, _ => by simp [iniSt] at h
  | [], [], _ :: _, h, _, _ => by simp [iniSt] at h
  | f :: fs, [], body, h, _, _ => by simp [iniSt] at h
  | f :: fs, p :: ps, [], h, _, _ => by simp [iniSt] at h
  | f :: fs, p :: ps, b :: bs, h, hp, hf => by
    simp only [iniSt, Bool.and_eq_true] at h
    have h1 := ini_1 h.1 hN hs (hp p (by simp))
    have h2 := pss_ini T hN hs fs ps bs h.2 (fun x hx => hp x (by simp [hx])) (fun x hx => hf x (by simp [hx]))
    refine ⟨fun pins s σ H D I ⟨a, dx, fs0, ys, s1, s2, e1, e2, ne, hl, q⟩ => (pss_cons h1 h2).run pins s σ H D I ?_⟩
    cases s2 with
    | @cons _ y _ ys sy sr =>
      refine ⟨y, sy, .ref a, s1, a, C, rfl, T, hf f (by simp), .inr ⟨dx, fs0, e1, e2, by simp only [List.length_cons] at hl; omega, ?_⟩⟩
      refine ⟨a, dx, (f, y) :: fs0, ys, s1, sr, by rw [upd_ne (Ne.symm ne)]; exact e1, upd_same, ne, by simp only [List.length_cons] at hl ⊢; omega, fun H' k1 k2 k3 => ?_⟩
      refine q H' k1 (by rw [k2]; simp) fun b b1 b2 => by rw [k3 b b1 b2, upd_ne b2]
theorem noStar_name {x : Str} {p : Pos} {es : List Expr} {env : Env} : starEach (.Name x p :: es) env = (false, eval (.Name x p) env) :: starEach es env := rfl
theorem pss_iniB {C L : Addr} {base self f p : Str} {fs ps : List Str} {body : List Stmt} (T : OexC X.K C) (B : ExB X.K L) (hg : Gl X base) (hm : X.mg base = some (.ref L)) (hdb : (base == ("__debug__" : Str)) = false) (hN : X.N.Nodup) (hs : SlN X self)
    (h : iniBody base self (f :: fs) (p :: ps) body = true) (hp : ∀ x ∈ p :: ps, SlN X x) (hf : ∀ x ∈ f :: fs, PySem.W.findIn X.K (.ref C) x = some none) (hl : fs.length ≤ 800) :
    PSs X body (fun D σ H => ∃ a ys, SlO X σ self (.ref a) ∧ Paired (SlO X σ) (p :: ps) ys ∧ H a = some (exo a C none) ∧
      ∀ dx H', H dx = none → dx ≠ a → H' a = some (exo a C (some dx)) → H' dx = some (exd dx ((f :: fs).zip ys).reverse) → (∀ b, b ≠ a → b ≠ dx → H' b = H b) → D.nx σ H') := by
  unfold iniBody at h
  split at h
  · rename_i y p1 nm ap o p3 z k p4 cp p5 r
    simp only [Bool.and_eq_true, decide_eq_true_eq] at h
    obtain ⟨⟨⟨⟨rfl, rfl⟩, hline⟩, rfl⟩, h⟩ := h
    cases r with
    | nil => simp [iniSt] at h
    | cons b bs =>
      simp only [iniSt, Bool.and_eq_true] at h
      have e0 := pe_binit (X := X) (p1 := p1) (p2 := ap) (pos := cp) hg hm B (e := .Name o p3) (es := [.Constant (.str z) k p4]) (pa_cons (pe_nm (pos := p3) hN hs) (pa_cons (pe_str (x := z) (j := k) (pos := p4)) pa_nil) noStar_name) hdb (by rfl) hline noStar_name (by rfl)
      have h1 := ini_1 h.1 hN hs (hp p (by simp))
      have h2 := pss_ini T hN hs fs ps bs h.2 (fun x hx => hp x (by simp [hx])) (fun x hx => hf x (by simp [hx]))
      refine ⟨fun pins s σ H D I ⟨a, ys, s1, s2, e1, q⟩ => (pss_cons (ps_expr e0 (by rfl)) (pss_cons h1 h2)).run pins s σ H D I ?_⟩
      cases s2 with
      | @cons _ y _ ys sy sr =>
        refine ⟨.ref a, s1, ?_⟩
        refine ⟨a, C, [.str z], rfl, by simp, T, e1, ?_⟩
        refine ⟨y, sy, .ref a, s1, a, C, rfl, T, hf f (by simp), .inl ⟨e1, fun dx n ne => ?_⟩⟩
        refine ⟨a, dx, [(f, y)], ys, s1, sr, upd_same, by rw [upd_ne ne, upd_same], ne, by simp; omega, fun H' k1 k2 k3 => ?_⟩
        refine q dx H' n ne k1 (by rw [k2]; simp) fun b b1 b2 => by rw [k3 b b1 b2, upd_ne b1, upd_ne b2]
  · cases h
end
end Ev
set_option Elab.async false
set_option linter.all false
set_option maxRecDepth 100000
set_option maxHeartbeats 4000000
namespace Ev
open PySem PySem.Spec PyProof.Rows L2
section
variable {X : Cx} {pins : List (Addr × Obj)} {σ : L2.St} {H : Hp} {s : Shared}
/-- an object that is there, new since the def began, is tracked -/
theorem inv_track {a : Addr} {oe : Obj} {vs : Array Value} {cls : Value} {d : Option Addr} (I : Inv X pins σ H s) (he : s.heap.get? a = some oe) (hz : Zc cls d oe) (hd : oe.data = .fields vs) (na : H a = none) (h0 : X.s_0.heap.get? a = none) (nL : a ≠ X.env.locals)
    (np : ∀ p ∈ X.pn ++ pins, p.1 ≠ a) : Inv X pins σ (upd H a (exq cls d a)) s := by
  have ne : ∀ {b : Addr} {o : HO}, H b = some o → b ≠ a := fun {b o} e z => by rw [z, na] at e; cases e
  refine ⟨I.ok, I.os, I.bare, ⟨I.base.keep, I.base.slot, fun b o e n hx => ?_, I.base.there, fun b xs e => ?_, fun b o u e => ?_, fun b ps e => ?_⟩, I.loc, I.cell, ?_, fun x c e => ?_, fun p hp => ?_, fun b o e => ?_, I.len⟩
  · have hb : b ≠ a := fun z => by rw [z, h0] at e; cases e
    rw [upd_ne hb]; exact I.base.free b o e n hx
  · have q := I.base.tups b xs e; rw [upd_ne (ne q)]; exact q
  · have q := I.base.frzs b o u e; rw [upd_ne (ne q)]; exact q
  · obtain ⟨m, q⟩ := I.base.tbls b ps e; exact ⟨m, by rw [upd_ne (ne q)]; exact q⟩
  · rw [upd_ne (Ne.symm nL)]; exact I.free
  · have hc : c ≠ a := fun z => by
      obtain ⟨v, o, ho, hdv⟩ := I.cell x c e
      rw [z, he] at ho; cases ho
      rw [hd] at hdv; cases hdv
    rw [upd_ne hc]; exact I.freeC x c e
  · obtain ⟨e, n, q⟩ := I.pin p hp
    exact ⟨e, by rw [upd_ne (np p hp)]; exact n, q⟩
  · by_cases hb : b = a
    · subst hb
      rw [upd_same] at e; cases e
      exact exq_ok he hz hd
    · rw [upd_ne hb] at e
      exact (I.hok b o e).stay (fun c v _ q => q) (fun c q => by rw [upd_ne (ne q)]; exact q) fun c xs q => by rw [upd_ne (ne q)]; exact q
theorem inv_suite {a : Addr} {xs : List (Addr × Obj)} (I : Inv X pins σ H s) : Inv (X.suite a (X.pn ++ pins)) [] σ H s :=
  ⟨I.ok.suite _ _, I.os, I.bare, I.base, I.loc, I.cell, I.free, I.freeC, fun p hp => I.pin p (by rw [List.append_nil] at hp; exact hp), I.hok, I.len⟩
theorem inv_unsuite {a : Addr} {pn' : List (Addr × Obj)} (I : Inv (X.suite a (X.pn ++ pins)) pn' σ H s) (ok : X.Ok) : Inv X pins σ H s :=
  ⟨ok, I.os, I.bare, I.base, I.loc, I.cell, I.free, I.freeC, fun p hp => I.pin p (List.mem_append_left _ hp), I.hok, I.len⟩
end
/-- what 'except x as n' wishes, the exception tracked -/
def wAsV (K : PySem.W.Frag) (c : Value) (i : Nat) (ts : TS) (Wout : WX) (D : Ends) : WX := fun cls d σ H =>
  ∃ b, PySem.W.exmOne K cls c = some b ∧ (b = true → ∀ a, H a = none → ts { nx := fun σ' H' => D.nx (σ'.set i none) H', rt := D.rt, bk := fun σ' H' => D.bk (σ'.set i none) H', ct := fun σ' H' => D.ct (σ'.set i none) H' } (σ.set i (some (.ref a))) (upd H a (exq cls d a))) ∧
    (b = false → Wout cls d σ H)
section
variable {X : Cx} {x n : Str} {c : Value} {i : Nat} {body suite : List Stmt} {b₀ : Stmt} {np pos pos' : Pos} {tb : WX → TS} {ts : TS} {Wout : WX}
theorem ps_try_v (hs : X.stack = X.env :: X.outer) (hf : X.env.frame = some X.env.locals) (hex : X.ex = []) (hN : X.N.Nodup) (hi : X.N[i]? = some n) (hln : X.env.kindOf n = some .local) (hc : Names X x c) (tk : Takes X Wout)
    (hb : ∀ (W : WX) (pn : List (Addr × Obj)) (xe : Value → Shared → Prop), Takes (X.tr pn xe) W → PassesOwn (model X.prog X.w) X.A X.env xe → PSs (X.tr pn xe) body (tb W))
    (hsu : ∀ (a : Addr) (pn : List (Addr × Obj)), PSs (X.suite a pn) (b₀ :: suite) ts) :
    PS X (.Try body [.ExceptHandler (some (.Name x np)) (some n) (b₀ :: suite) pos'] [] [] pos) (fun D σ H => tb (wAsV X.K c i ts Wout D) D σ H) := by
  refine ⟨fun pins s σ H D I h => ?_⟩
  have ok := I.ok
  have hfr : X.A.frames = some (X.env :: X.outer) := by rw [ok.frames, hs]
  have hloc : L2.Loc X.env.scope n := .inl hln
  refine wpAny_Try_except ?_
  refine wpAny_mono ((hb (wAsV X.K c i ts Wout D) (X.pn ++ pins) (fun e s₁ => wpAny (model X.prog X.w) X.A (noteFrame e X.env) (fun _ s₂ => wpAny (model X.prog X.w) X.A (setFlight e none) (fun _ s₃ =>
    wpAny (model X.prog X.w) X.A (handleBy e X.env [.ExceptHandler (some (.Name x np)) (some n) (b₀ :: suite) pos']) (SP X pins D) X.xe s₃) X.xe s₂) X.xe s₁) (fun u s' xx => ?_) PassesOwn.looking).run [] s σ H D (I.toTry _) h) (fun f s1 hsp => ?_) (fun e s1 he => he)
  · obtain ⟨a, B, sI, pins', σ', H', cls, d, rfl, J', nb, up, sky, na, os, ag, b, hb1, hyes, hno⟩ := xx
    have J : Inv X pins σ' H' sI := J'.ofTry ok
    have sky' : Sky B (X.env :: X.outer) a (Zc cls d) X.env.locals s'.heap := by rw [← hs]; exact sky
    show wpAny (model X.prog X.w) X.A (noteFrame (.ref a) X.env) _ _ _
    refine Sky.land Zc.steady hfr hf sky' fun h3 fl3 up3 => ?_
    have J3 : Inv X pins σ' H' { s' with heap := h3 } := J.landed nb fl3.1 (up.trans up3) os ag
    obtain ⟨oe3, vs3, he3, hz3, hd3⟩ := fl3.there
    have notFr : ∀ {h : Heap} {o : Obj} {vs : Array Value}, h.FunFrames B (X.env :: X.outer) → h.get? a = some o → o.data = .fields vs → a ∉ frs (X.env :: X.outer) := fun {h o vs} ff e dd hm => by
      obtain ⟨_, o', e', hnf⟩ := ff.mem hm
      rw [e] at e'; cases e'
      exact hnf _ dd
    have nfr := notFr fl3.2.2.1 he3 hd3
    have nL : a ≠ X.env.locals := fun z => nfr (List.mem_filterMap.mpr ⟨X.env, List.mem_cons_self, by rw [hf, z]⟩)
    have nF : a ∉ X.fs := fun hm => by
      obtain ⟨e, he, q⟩ := List.mem_filterMap.mp hm
      exact nfr (List.mem_filterMap.mpr ⟨e, List.mem_cons_of_mem _ he, q⟩)
    have nstk : a ∉ frs X.stack := by rw [hs]; exact nfr
    have gone : sI.heap.get? a = none := by
      cases e : sI.heap.get? a with
      | none => rfl
      | some o =>
        have z := nb a o e nstk
        rw [fl3.2.1] at z; cases z
    have h0 : X.s_0.heap.get? a = none := by
      cases e : X.s_0.heap.get? a with
      | none => rfl
      | some o =>
        obtain ⟨o', z⟩ := J.base.there a o e (by rw [hex]; exact fun z => nomatch z)
        rw [gone] at z; cases z
    have np' : ∀ p ∈ X.pn ++ pins, p.1 ≠ a := fun p hp z => by
      obtain ⟨e, _⟩ := J.pin p hp
      rw [z, gone] at e; cases e
    have S3 := J3.suite he3 hd3 na nL nF
    refine wpAny_handleBy_cons (codeAny_handlers_test ?_) (by intro q; cases q)
    have LT : PySem.W.Looks (model X.prog X.w) h3 (typeOf (.ref a)) cls := fun A Q E s k q => wpAny_typeOf_ref (k _ _ he3) (by rw [hz3.1]; exact q)
    have LM := PySem.W.exm_one (M := model X.prog X.w) (J3.kIn) LT hb1
    have test : ∀ {Q : Value → Shared → Prop} {E : Value → Shared → Prop}, Q c { s' with heap := h3 } → wpAny (model X.prog X.w) (X.A.mark (some (.ref a))) (eval (.Name x np) X.env) Q E { s' with heap := h3 } := fun {Q E} q => by
      obtain ⟨hg, hdbg, hm | ⟨hm, hv, hnn⟩⟩ := hc
      · exact ld_glob (X := X.suite a ((a, oe3) :: (X.pn ++ pins))) S3 hg hm q hdbg
      · exact ld_blt (X := X.suite a ((a, oe3) :: (X.pn ++ pins))) S3 hg hm hv q hnn hdbg
    refine test (LM.here ?_)
    cases b with
    | true =>
      refine codeAny_handlers_suite_as ?_
      refine HandSPX.lands_againZ fl3 fun h4 fl4 up4 => ?_
      have J4 : Inv X pins σ' H' { s' with heap := h4 } := J.landed nb fl4.1 ((up.trans up3).trans up4) os ag
      obtain ⟨oe4, vs4, he4, hz4, hd4⟩ := fl4.there
      have S4 := inv_suite (a := a) (xs := []) (inv_track J4 he4 hz4 hd4 na h0 nL np')
      refine store_ok (X := X.suite a (X.pn ++ pins)) (v := .ref a) S4 hN hi hloc rfl (fun s5 S5 => ?_) (.inr hln)
      refine wpAny_mono ((hsu a (X.pn ++ pins)).run [] s5 _ _ _ S5 (hyes rfl a na)) (fun f s6 hsp => ?_) (fun _ _ z => False.elim z)
      have end_ : ∀ {σ6 : L2.St} {H6 : Hp} {Q : Shared → Prop}, Inv (X.suite a (X.pn ++ pins)) [] σ6 H6 s6 → (∀ s7, Inv X pins (σ6.set i none) H6 s7 → Q s7) →
          wpAny (model X.prog X.w) X.A (do bindName X.env n .none; unbindBehindTheSuite X.env n pos') (fun _ s7 => Q s7) X.xe s6 := fun {σ6 H6 Q} S6 hq => gone_ok (inv_unsuite S6 ok) hN hi hln hq
      cases f with
      | next =>
        obtain ⟨σ6, H6, S6, q6⟩ := hsp
        exact end_ S6 fun s7 J7 => ⟨_, _, J7, q6⟩
      | brk =>
        obtain ⟨σ6, H6, S6, q6⟩ := hsp
        exact end_ S6 fun s7 J7 => ⟨_, _, J7, q6⟩
      | cont =>
        obtain ⟨σ6, H6, S6, q6⟩ := hsp
        exact end_ S6 fun s7 J7 => ⟨_, _, J7, q6⟩
      | ret u =>
        obtain ⟨v6, σ6, H6, S6, r6, q6⟩ := hsp
        exact end_ S6 fun s7 J7 => ⟨_, _, _, J7, r6, q6⟩
    | false =>
      show wpAny _ X.A (handleBy (.ref a) X.env []) _ _ _
      refine wpAny_handleBy_nil ?_
      obtain ⟨k1, k2, k3, oe, vs, T, oT, ts', he, hz, hd, h1, hr⟩ := id fl3
      unfold PySem.passOn
      refine wpAny_bind (wpAny_field he hd h1 ?_)
      rw [if_neg (show ¬ ((Value.ref T == Value.none) = true) from by simp)]
      have fin : wpAny (model X.prog X.w) X.A (setFlight (.ref a) X.env.frame) (fun _ s4 => wpAny (model X.prog X.w) X.A (throw (.ref a) : Sem Flow) (SP X pins D) X.xe s4) X.xe { s' with heap := h3 } := by
        rw [hf]
        refine HandSPX.setFlight_upZ fl3 fun h4 hh4 up4 => wpAny_throw (tk _ _ ?_)
        exact ⟨a, B, sI, pins, σ', H', cls, d, rfl, J, nb, (up.trans up3).trans up4, .inr (.inr (by rw [hs]; exact hh4)), na, os, ag, hno rfl⟩
      first
        | exact wpAny_bind (wpAny_pure (wpAny_bind fin))
        | exact wpAny_bind fin
  · cases f with
    | next =>
      obtain ⟨σ', H', J', q⟩ := hsp
      exact wpAny_execs_nil ⟨σ', H', J'.ofTry ok, q⟩
    | brk =>
      obtain ⟨σ', H', J', q⟩ := hsp
      exact ⟨σ', H', J'.ofTry ok, q⟩
    | cont =>
      obtain ⟨σ', H', J', q⟩ := hsp
      exact ⟨σ', H', J'.ofTry ok, q⟩
    | ret u =>
      obtain ⟨v, σ', H', J', r, q⟩ := hsp
      exact ⟨v, σ', H', J'.ofTry ok, r, q⟩
end
/-! ### what classes of exceptions say -/
inductive Mk where
  /-- without own __init__ -/
  | own
  /-- its __init__ stores what it is handed -/
  | ini (f : Str) (fs : List Str)
def MkOk (P : Program) (w : World) (K : PySem.W.Frag) (mg : Str → Option Value) (base : Heap) (c : Str) : Mk → Prop
  | .own => PySem.W.excIn K (He.ga K c) He.veBase "ValueError.__new__" = true ∧ PySem.W.keepIn K (.ref (He.ga K c)) = true ∧ PySem.W.subIn K (.ref (He.ga K c)) (.type "BaseException") = some true ∧ PySem.W.typeIn K (.ref (He.ga K c)) = some (.type "type") ∧ mg c = some (.ref (He.ga K c))
  | .ini f fs => OexC K (He.ga K c) ∧ mg c = some (.ref (He.ga K c)) ∧ ∃ fI fd ps, PySem.W.findIn K (.ref (He.ga K c)) "__init__" = some (some (.ref fI)) ∧ PySem.W.typeIn K (.ref fI) = some (.type "function") ∧
      FnOk P w K mg base (L2.CX P w) 1 fI fd ps (spIni K (He.ga K c) (f :: fs)) ∧ L2.Binds K fd ps []
section
variable {X : Cx} {x : Str} {e : Expr} {es : List Expr} {ta : TA} {p pos : Pos}
theorem pmk_own0 (mono : ∀ σ H Q Q', ta σ H Q → (∀ vs H1, Q vs H1 → Q' vs H1) → ta σ H Q') (M : MkOk X.prog X.w X.K X.mg X.base x .own) (hg : Gl X x) (ha : PA X (e :: es) ta) (hdb : (x == ("__debug__" : Str)) = false)
    (he : starEach (e :: es) X.env = (false, eval e X.env) :: starEach es X.env) (hpl : (backTo pos (starEach es X.env)).any (·.1) = false) :
    PMk X (.Call (.Name x p) (e :: es) [] pos) (fun σ H Q => ta σ H fun vs H1 => vs.length ≤ 1000 ∧ Q (.ref (He.ga X.K x)) none H1) := by
  obtain ⟨m1, m2, m3, m4, m5⟩ := M
  intro pins s σ H Q I h
  refine pmk_ownA (t := ta) (bmB := He.veBase) PySem.F.excBase_ValueError m1 m5 m2 (raises_own m3 m4) hg ha hdb he hpl pins s σ H Q I (mono σ H _ _ h fun vs H1 ⟨hl, q⟩ => ⟨by rw [sizeLine_eq]; omega, q⟩)
/-- C(e, ..): its fields are what it is handed, in this order -/
theorem pmk_ini {f : Str} {fs : List Str} (mono : ∀ σ H Q Q', ta σ H Q → (∀ vs H1, Q vs H1 → Q' vs H1) → ta σ H Q') (M : MkOk X.prog X.w X.K X.mg X.base x (.ini f fs)) (hr : Room 2 X.A) (hg : Gl X x) (ha : PA X (e :: es) ta) (hdb : (x == ("__debug__" : Str)) = false)
    (he : starEach (e :: es) X.env = (false, eval e X.env) :: starEach es X.env) (hpl : (backTo pos (starEach es X.env)).any (·.1) = false) :
    PMk X (.Call (.Name x p) (e :: es) [] pos) (fun σ H Q => ta σ H fun vs H1 => vs.length ≤ 1000 ∧ vs.length = (f :: fs).length ∧ ∀ d, H1 d = none → Q (.ref (He.ga X.K x)) (some d) (upd H1 d (.xd ((f :: fs).zip vs).reverse))) := by
  obtain ⟨T, hm, fI, fd, ps, m1, m2, F, hb⟩ := M
  intro pins s σ H Q I h
  refine pmk_oex (ta := ta) (ds := []) (dvs := []) T m1 m2 F hr hb .nil ?_ hg hm ha hdb he hpl pins s σ H Q I (mono σ H _ _ h fun vs H1 ⟨hl, hn, q⟩ => ⟨hl, fun a na => ?_⟩)
  · exact fun pins σ H s e s' I c => by
      obtain ⟨_, _, _, _, _, _, _, _, _, _, _, _, z⟩ := c
      exact z.elim
  · refine ⟨a, vs ++ [], rfl, by rw [List.append_nil]; exact hn, upd_same, fun dx H' n1 n2 e1 e2 e3 => ⟨rfl, dx, _, e1, e2, by rw [upd_ne n2] at n1; exact n1, ?_⟩⟩
    rw [upd_ne n2] at n1
    have z : upd (L2.del H' a) dx (.xd ((f :: fs).zip (vs ++ [])).reverse) = upd H1 dx (.xd ((f :: fs).zip vs).reverse) := by
      funext b
      by_cases hb : b = dx
      · subst hb; rw [upd_same, upd_same, List.append_nil]
      · rw [upd_ne hb, upd_ne hb]
        by_cases hba : b = a
        · subst hba; rw [L2.del_same, na]
        · rw [L2.del_ne hba, e3 b hba hb, upd_ne hba]
    rw [z]
    exact q dx n1
end
/-! ### such an __init__'s promise -/
theorem fn_ini {P : Program} {w : World} {K : PySem.W.Frag} {mg : Str → Option Value} {base : Heap} {x qual : Str} {params : Arguments} {body : List Stmt} {scope : Scope} {fI : Addr} {fd : FuncData} {C L : Addr} {bs self f p : Str} {fs ps : List Str}
    (F : FunD K x qual params body scope [] [] fI fd) (Sc : FnScope (self :: p :: ps) (self :: p :: ps) scope) (T : OexC K C) (B : ExB K L) (hg : scope.names.lookup bs = some .globalImplicit) (hm : mg bs = some (.ref L)) (hdb : (bs == ("__debug__" : Str)) = false)
    (h : iniBody bs self (f :: fs) (p :: ps) body = true) (hv : ∀ x ∈ self :: p :: ps, scope.names.lookup x = some .local ∧ (x == ("__debug__" : Str)) = false ∧ (x == ("__classdict__" : Str)) = false) (hf : ∀ x ∈ f :: fs, PySem.W.findIn K (.ref C) x = some none) (hl : fs.length ≤ 800) (hle : fs.length = ps.length) :
    FnOk P w K mg base (L2.CX P w) 1 fI fd (self :: p :: ps) (spIni K C (f :: fs)) := by
  refine F.ok Sc (fun vs H Q E ⟨a, ys, e1, e2, _⟩ => by rw [e1]; simp [e2, hle]) fun cdv A outer s H vs Q E hr ⟨a, ys, e1, e2, e3, q⟩ => ?_
  subst e1
  have nm : ∀ y ∈ self :: p :: ps, ∀ (X : Cx), X.N = self :: p :: ps → X.env.scope = scope → SlN X y := fun y hy X hN hs => by
    obtain ⟨i, hi, hiy⟩ := List.mem_iff_getElem.mp hy
    exact ⟨i, by rw [hN, List.getElem?_eq_getElem hi, hiy], .inl (by rw [hs]; exact (hv y hy).1), (hv y hy).2.1, (hv y hy).2.2⟩
  refine ⟨_, pss_iniB (X := cxOf (L2.CX P w) P w K mg base (self :: p :: ps) qual scope fI cdv A outer s H E) T B hg hm hdb Sc.nd (nm self (by simp) _ rfl rfl) h (fun y hy => nm y (by simp only [List.mem_cons] at hy ⊢; exact .inr hy) _ rfl rfl) hf hl, ?_⟩
  have sl : ∀ (i : Nat) y v, (self :: p :: ps)[i]? = some y → (V.ref a :: ys)[i]? = some v → SlO (cxOf (L2.CX P w) P w K mg base (self :: p :: ps) qual scope fI cdv A outer s H E) (L2.start (self :: p :: ps) (V.ref a :: ys)) y v := fun i y v h1 h2 => by
    have hy := List.mem_of_getElem? h1
    refine ⟨i, h1, .inl (hv y hy).1, (hv y hy).2.1, (hv y hy).2.2, ?_⟩
    unfold L2.start
    have hi : i < (V.ref a :: ys).length := (List.getElem?_eq_some_iff.mp h2).1
    rw [List.getElem?_append_left (by rw [List.length_map]; exact hi), List.getElem?_map, h2]; rfl
  have pr : ∀ (j : Nat) (qs : List Str) (zs : List V), qs.length = zs.length → (∀ (i : Nat) y v, qs[i]? = some y → zs[i]? = some v → (self :: p :: ps)[j + i]? = some y ∧ (V.ref a :: ys)[j + i]? = some v) → Paired (SlO (cxOf (L2.CX P w) P w K mg base (self :: p :: ps) qual scope fI cdv A outer s H E) (L2.start (self :: p :: ps) (V.ref a :: ys))) qs zs := by
    intro j qs
    induction qs generalizing j with
    | nil => intro zs hz _; cases zs with
      | nil => exact .nil
      | cons _ _ => cases hz
    | cons y qs ih =>
      intro zs hz hh
      cases zs with
      | nil => cases hz
      | cons z zs =>
        obtain ⟨k1, k2⟩ := hh 0 y z rfl rfl
        exact .cons (sl j y z k1 k2) (ih (j + 1) zs (by simpa using hz) fun i y' v' h1 h2 => by
          obtain ⟨l1, l2⟩ := hh (i + 1) y' v' (by simpa using h1) (by simpa using h2)
          rw [Nat.add_assoc, Nat.add_comm 1 i]
          exact ⟨l1, l2⟩)
  refine ⟨a, ys, sl 0 _ _ rfl rfl, pr 1 (p :: ps) ys (by rw [e2]; simp [hle]) (fun i y v h1 h2 => by
    rw [Nat.add_comm]
    exact ⟨h1, h2⟩), e3, fun dx H' n1 n2 k1 k2 k3 => q dx H' n1 n2 k1 k2 k3⟩
end Ev
set_option Elab.async false
set_option linter.all false
set_option maxRecDepth 100000
set_option maxHeartbeats 4000000
namespace Ev
open PySem PySem.Spec PyProof.Rows L2
/-- what a class of exceptions must say, so that its instances are looked at rightly -/
structure ExC (K : PySem.W.Frag) (D : Addr) : Prop where
  hg : PySem.W.findIn K (.ref D) "__getattribute__" = some (some (.builtin "BaseException.__getattribute__"))
  hk : PySem.W.findIn K (.ref D) "__getattr__" = some none
  hs : PySem.W.subIn K (.ref D) (.type "BaseException") = some true
  hd : PySem.W.hasDictIn K D = true
  ha : PySem.W.findIn K (.ref D) "__class__" = some (some (.builtin "object.__class__"))
  hn : PySem.W.specialIn K (.builtin "object.__class__") "__get__" = some (some (.builtin "getset_descriptor.__get__"))
  ht : PySem.W.takesIn K (.builtin "object.__class__") = some true
  hm : PySem.W.mroIn K D (.type "object") = some true
def exCB (K : PySem.W.Frag) (D : Addr) : Bool :=
  decide (PySem.W.findIn K (.ref D) "__getattribute__" = some (some (.builtin "BaseException.__getattribute__"))) && (decide (PySem.W.findIn K (.ref D) "__getattr__" = some none) && (decide (PySem.W.subIn K (.ref D) (.type "BaseException") = some true) && (PySem.W.hasDictIn K D &&
    (decide (PySem.W.findIn K (.ref D) "__class__" = some (some (.builtin "object.__class__"))) && (decide (PySem.W.specialIn K (.builtin "object.__class__") "__get__" = some (some (.builtin "getset_descriptor.__get__"))) && (decide (PySem.W.takesIn K (.builtin "object.__class__") = some true) && decide (PySem.W.mroIn K D (.type "object") = some true)))))))
theorem exCB_ok {K : PySem.W.Frag} {D : Addr} (h : exCB K D = true) : ExC K D := by
  unfold exCB at h
  simp only [Bool.and_eq_true, decide_eq_true_eq] at h
  exact ⟨h.1, h.2.1, h.2.2.1, h.2.2.2.1, h.2.2.2.2.1, h.2.2.2.2.2.1, h.2.2.2.2.2.2.1, h.2.2.2.2.2.2.2⟩
/-- an exception, tracked: its dict none, or tracked, too -/
def ExH (H : Hp) (a C : Addr) (d : Option Addr) : Prop := H a = some (exq (.ref C) d a) ∧ ∀ dx, d = some dx → ∃ fs, H dx = some (.xd fs)
theorem ExH.inst {P : Program} {w : World} {H : Hp} {h : Heap} {a C : Addr} {d : Option Addr} (hok : HOk P w H h) (x : ExH H a C d) : ∃ ox od, PySem.W.InstAt h a ox C od := by
  obtain ⟨oe, vs, e, ⟨z1, z2⟩, hd⟩ := exq_at hok x.1
  have nc : PySem.W.notCls oe = true := by unfold PySem.W.notCls; rw [hd] <;> rfl
  cases d with
  | none => exact ⟨oe, none, e, z1, nc, by rw [z2]; exact trivial⟩
  | some dx =>
    obtain ⟨fs, hx⟩ := x.2 dx rfl
    have q : ObjOk P w H h dx (.xd fs) := hok dx _ hx
    obtain ⟨mA, ⟨od, es, ep, ho, _⟩, _⟩ := q
    exact ⟨oe, some od, e, z1, nc, by rw [z2]; exact ho⟩
/-- isinstance(e, c) -/
def rIsQ (K : PySem.W.Frag) : List V → Hp → VK → Prop := fun xs H Q => ∃ (a C : Addr) (d : Option Addr) (c : V) (cv : Value) (b : Bool), xs = [.ref a, c] ∧ ExH H a C d ∧ ExC K C ∧ (∀ u, RelV c u → u = cv) ∧ PySem.W.kitOne K (.ref C) cv = some b ∧ Q (.bl b) H
section
variable {X : Cx}
theorem call_isQ : CallR X (.builtin "isinstance") (rIsQ X.K) := by
  intro pins s σ H xs us Q I r h
  obtain ⟨a, C, d, c, cv, b, rfl, ex, T, hcv, e, q⟩ := h
  cases r with
  | cons rx rr =>
    cases rr with
    | cons rt rr =>
      cases rr
      cases rx
      have ec := hcv _ rt
      subst ec
      obtain ⟨ox, od, J⟩ := ex.inst I.hok
      have hcl : (PySem.W.clsIn X.K C).isSome = true := by
        have hd := T.hd
        unfold PySem.W.hasDictIn at hd
        cases z : PySem.W.clsIn X.K C with
        | none => rw [z] at hd; cases hd
        | some cd => rfl
      exact PySem.W.kia_one (PySem.W.kitx_exc hcl T.hg T.hk T.hs T.ha T.hn T.ht T.hm) I.kIn J e (fun z => nomatch z) fun tk => ⟨.bl b, H, I.kept (t' := tk) fun _ _ z => z, rfl, q⟩
/-- e.f -/
def tFldQ (K : PySem.W.Frag) (f : Str) (te : TE) : TE := fun σ H Q => te σ H fun x H1 => ∃ (a C dx : Addr) (fs : List (Str × V)) (v : V), x = .ref a ∧ H1 a = some (exq (.ref C) (some dx) a) ∧ H1 dx = some (.xd fs) ∧ ExC K C ∧ PySem.W.findIn K (.ref C) f = some none ∧ fs.lookup f = some v ∧ Q v H1
theorem pe_fldQ {e : Expr} {te : TE} {pos : Pos} {n : Str} (he : PE X e te) (hb : attributeBase e n X.env (eval e X.env) = eval e X.env) : PE X (.Attribute e n pos) (tFldQ X.K n te) := by
  refine ⟨fun pins s σ H Q I h => ?_⟩
  refine attr_of hb (thn (he.run pins s σ H _ I h) fun u s1 hh => ?_)
  obtain ⟨x, H1, I1, rx, a, C, dx, fs, v, rfl, ea, ed, T, hno, l, q⟩ := hh
  obtain rfl : u = Value.ref a := rx
  obtain ⟨oe, vs, ho, ⟨z1, z2⟩, hd⟩ := exq_at I1.hok ea
  have hx : ObjOk X.prog X.w H1 s1.heap dx (.xd fs) := I1.hok dx _ ed
  obtain ⟨mA, hns, hr⟩ := hx
  obtain ⟨od, ho2, hl⟩ := lookIn_ns hns
  obtain ⟨u, hu, ru⟩ := RelO.some_of (v := v) (o := mA n) (by rw [← l]; exact hr n)
  have J : PySem.W.InstAt s1.heap a oe C (some od) := ⟨ho, z1, by unfold PySem.W.notCls; rw [hd] <;> rfl, by rw [z2]; exact ho2⟩
  exact HandSPX.exc_get I1.kIn J T.hg T.hk T.hs (PySem.W.findObj_own T.hd hno rfl (by rw [hl, hu])) (handed_of ru) ⟨v, H1, I1.tok _, ru, q⟩
end
/-! ### what the module's classes say, by a look -/
/-- the class at C: an own one over ValueError, with own __init__ -/
def oexB (K : PySem.W.Frag) (C : Addr) : Bool := (match K.lookup C with
  | some ⟨.type "type", _, .cls ⟨_, _, .ref C' :: bm, _, _, true, _, _, _, _, false⟩, ⟨[_, _, _, _, some (.builtin n), _]⟩⟩ => decide (C' = C) && (decide (n = "ValueError.__new__") && PySem.HandSPX.refsVE bm)
  | _ => false) && (decide (PySem.W.findIn K (.ref C) "__setattr__" = some (some (.builtin "object.__setattr__"))) && (decide (PySem.W.subIn K (.ref C) (.type "BaseException") = some true) && (decide (PySem.W.typeIn K (.ref C) = some (.type "type")) && PySem.W.keepIn K (.ref C))))
theorem oexB_ok {K : PySem.W.Frag} {C : Addr} (h : oexB K C = true) : OexC K C := by
  unfold oexB at h
  simp only [Bool.and_eq_true, decide_eq_true_eq] at h
  obtain ⟨h0, h1, h2, h3, h4⟩ := h
  refine ⟨?_, h1, h2, h3, h4⟩
  split at h0
  · rename_i e
    simp only [Bool.and_eq_true, decide_eq_true_eq] at h0
    obtain ⟨rfl, rfl, h0⟩ := h0
    exact ⟨_, _, _, _, _, _, _, _, _, _, _, _, _, _, _, e, h0⟩
  · cases h0
def exbB (K : PySem.W.Frag) (L : Addr) : Bool := decide (PySem.W.specialIn K (.ref L) "__getattribute__" = some (some (.builtin "type.__getattribute__"))) && (PySem.W.readsIn K L (.type "type") && (match PySem.W.findCls K (.ref L) (.type "type") "__init__" with
  | some (.val (.builtin n)) => decide (n = "ValueError.__init__")
  | _ => false))
theorem exbB_ok {K : PySem.W.Frag} {L : Addr} (h : exbB K L = true) : ExB K L := by
  unfold exbB at h
  simp only [Bool.and_eq_true, decide_eq_true_eq] at h
  obtain ⟨h1, h2, h3⟩ := h
  refine ⟨h1, _, h2, ?_⟩
  split at h3
  · rename_i e
    rw [e, of_decide_eq_true h3]
  · cases h3
/-! ### isinstance, except: which class is a class's -/
def SubOk (K : PySem.W.Frag) (mg : Str → Option Value) (c y : Str) (b : Bool) : Prop :=
  ExC K (He.ga K c) ∧ ((mg y = some (.ref (He.ga K y)) ∧ PySem.W.kitOne K (.ref (He.ga K c)) (.ref (He.ga K y)) = some b) ∨ (mg y = none ∧ ∃ n, bootBuiltins y = some (.type n) ∧ y ≠ "__name__" ∧ PySem.W.kitOne K (.ref (He.ga K c)) (.type n) = some b))
def ExmOk (K : PySem.W.Frag) (mg : Str → Option Value) (c y : Str) (b : Bool) : Prop := mg y = some (.ref (He.ga K y)) ∧ PySem.W.exmOne K (.ref (He.ga K c)) (.ref (He.ga K y)) = some b
def FldOk (K : PySem.W.Frag) (c f : Str) : Prop := ExC K (He.ga K c) ∧ PySem.W.findIn K (.ref (He.ga K c)) f = some none
/-- an exception that flies -/
def isXv (K : PySem.W.Frag) (x : Xv) (cls : Value) (d : Option Addr) (Hd : Hp) : Prop := cls = .ref (He.ga K x.cls) ∧
  ((d = none ∧ x.ks = [] ∧ x.xs = []) ∨ ∃ dx vs, d = some dx ∧ Hd dx = some (.xd (x.ks.zip vs)) ∧ x.ks.length = vs.length ∧ RelDs K Hd vs x.xs)
end Ev
set_option Elab.async false
set_option linter.all false
set_option maxRecDepth 100000
set_option maxHeartbeats 4000000
namespace Ev
open PySem PySem.Spec PyProof.Rows L2
/-! ### enumerate(tuple) -/
theorem meets_enum1 {v : Value} {o : Obj} {H : Heap → Prop} (B : Begins v o H) :
    Meets (Builtin.«enumerate.__new__» ⟨[.type "enumerate", v], []⟩) (fun _ R s => H s.heap ∧
      R (.ok (.ret (.ref (s.heap.push o).objs.size))) { s with heap := (s.heap.push o).push { cls := .type "enumerate", data := .fields #[.none, .bool false, .ref s.heap.objs.size, rawInt 0, .none, .none] } }) :=
  .of_wp fun prog w A R s h => by
    obtain ⟨hp, g, d, tk, os⟩ := s; obtain ⟨h1, h⟩ := h
    have hsub := sub_enumerate
    have q1 : ∀ {A' : Around} {E : Value → Shared → Prop} {Q : Value → Shared → Prop}, Q (.ref hp.objs.size) ⟨hp.push o, g, d, tk, os⟩ → wpAny (model prog w) A' (pyIter v) Q E ⟨hp, g, d, tk, os⟩ :=
      fun q => B.iter prog w _ _ ⟨hp, g, d, tk, os⟩ _ h1 q
    wp_walk using q1
    refine wpAny_stack_any fun st => wpAny_pure ?_
    split
    · rename_i c _ _ _ _ _
      cases (c == Value.type "enumerate")
      · wp_walk using q1
        exact ⟨_, rfl, h⟩
      · wp_walk using q1
        exact ⟨_, rfl, h⟩
    · wp_walk using q1
      exact ⟨_, rfl, h⟩
theorem call_enum1 {prog : Program} {w : World} {A : Around} {E : Value → Shared → Prop} {s : Shared} {v : Value} {o : Obj} {H : Heap → Prop} {Q : Value → Shared → Prop} (B : Begins v o H) (h1 : H s.heap)
    (h : ∀ h', IsEnum h' (s.heap.objs.size + 1) s.heap.objs.size 0 .none → h'.get? s.heap.objs.size = some o → h'.objs.size = s.heap.objs.size + 2 →
      (∀ b o, s.heap.get? b = some o → h'.get? b = some o) → Q (.ref (s.heap.objs.size + 1)) { s with heap := h' }) :
    wpAny (model prog w) A (call (.type "enumerate") [v]) Q E s := by
  refine callType_new F.called_enumerate (by decide) (F.typeCall_enumerate_1 _) (F.newCall_enumerate_1 _) (fun obj => F.args_object_init_2 obj _) F.entry_enumerate_new
    (meets_enum1 B) ⟨h1, ?_⟩
  have hz : (s.heap.push o).objs.size = s.heap.objs.size + 1 := Heap.size_push ..
  show _ ∧ _
  rw [hz]
  have he : IsEnum ((s.heap.push o).push { cls := .type "enumerate", data := .fields #[.none, .bool false, .ref s.heap.objs.size, rawInt 0, .none, .none] }) (s.heap.objs.size + 1) s.heap.objs.size 0 .none := by
    have := Heap.get?_push_size (s.heap.push o) (o := { cls := .type "enumerate", data := .fields #[.none, .bool false, .ref s.heap.objs.size, rawInt 0, .none, .none] }) rfl
    rw [hz] at this; exact this
  refine ⟨⟨_, he, rfl⟩, h _ he (Heap.get?_push_of_some _ (Heap.get?_push_size _ B.free)) (by rw [Heap.size_push, hz]) fun b o x => Heap.get?_push_of_some _ (Heap.get?_push_of_some _ x)⟩
/-- the tuple at a, each item in a new pair -/
def IteT (K : PySem.W.Frag) (a : Addr) : It :=
  ⟨fun i H => ∃ (xs : List V) (x : V), SqT K H a xs ∧ xs[i]? = some x, fun i H v H' => ∃ T x, v = .ref T ∧ H T = none ∧ H' = upd H T (.tup [.int (i : Nat), x]) ∧ ∀ xs, SqT K H a xs → xs[i]? = some x, fun i H => ∃ xs : List V, SqT K H a xs ∧ xs.length ≤ i⟩
theorem turn_enumT {P : Program} {w : World} {K : PySem.W.Frag} {elts : List Expr} {kk : Nat} {tpos : Pos} (a e it : Addr) (hai : a ≠ it) (hae : a ≠ e) :
    Turn P w K (.Tuple elts kk tpos) (IteT K a) [e, it] e (fun i h => (∃ old, IsEnum h e it ((i : Nat) : Int) old) ∧ h.IsTupleIter it a i ∧ e ≠ it) where
  mem := by simp
  obj := fun i h st b hb => by
    obtain ⟨⟨old, he⟩, ⟨o, ho, hc, hd⟩, _⟩ := st
    have e' : b = e ∨ b = it := by simpa using hb
    rcases e' with z | z
    · rw [z]; exact ⟨_, he, fun v q => nomatch q⟩
    · rw [z]; exact ⟨o, ho, fun v q => by rw [hd] at q; cases q⟩
  keep := fun i h h' st k => let ⟨⟨old, he⟩, hi, hne⟩ := st; ⟨⟨old, k e (by simp) _ he⟩, hi.at fun o q => k it (by simp) o q, hne⟩
  item := by
    intro X hP hw hK hc i pins s σ H E I hf st hg
    subst hP hw hK
    obtain ⟨⟨old, he⟩, hit, hne⟩ := st
    obtain ⟨xs, x, hq, hx⟩ := hg
    obtain ⟨its, rv, p, hz⟩ := I.tuple hq
    obtain ⟨u, hu, ru⟩ := rv.get hx
    have hel : e < s.heap.objs.size := Heap.lt_size he
    have hil : it < s.heap.objs.size := by obtain ⟨_, q, _⟩ := hit; exact Heap.lt_size q
    have hT : s.heap.IsTuple a its.toArray := by
      obtain ⟨o, e1, c1, n1, d1⟩ := p
      exact ⟨o, e1, c1, n1, d1⟩
    have D := Draws.tuple (prog := X.prog) (w := X.w) (A := X.A.in1) (I.ok.hd hc) it a hai its.toArray
    have hlt : i < its.toArray.size := by
      have := (List.getElem?_eq_some_iff.mp hu).1
      simpa using this
    refine wpAny_pyNext_enum_itemD D he ⟨hit, hT⟩ hlt hne (by simp only [List.mem_cons, List.mem_nil_iff, or_false]; rintro (z | z); exact hne z; exact hae z.symm) fun x' h' tk hP' ho hit' hT' hsz hk => ?_
    obtain rfl : u = x' := by
      have : its.toArray[i]? = some u := by simpa using hu
      rw [this] at hP'; exact Option.some.inj hP'
    refine ⟨_, rfl, wpAny_letOwnedTupleGo_enum (s := { s with heap := h', toks := tk + 1 }) ho fun h'' he' sb => ?_⟩
    have hT2 : h''.get? s.heap.objs.size = some { cls := .type "tuple", data := .seq #[.int i tk, u] } := (sb.2 _ (Nat.ne_of_gt hel)).trans hT'
    have new : ObjOk X.prog X.w (upd H s.heap.objs.size (.tup [.int (i : Nat), x])) h'' s.heap.objs.size (.tup [.int (i : Nat), x]) :=
      ⟨by show 2 ≤ sizeLine; decide, [.int i tk, u], .cons ⟨_, rfl⟩ (.cons ru .nil), ⟨_, hT2, rfl, _, rfl⟩⟩
    have I1 : Inv X pins σ (upd H s.heap.objs.size (.tup [.int (i : Nat), x])) { s with heap := h'', toks := tk + 1 } :=
      I.turnedNew (ch := [e, it]) (fun b ob hb q => (sb.2 b (fun z => hb (by simp [z]))).trans (hk b ob (fun z => hb (by simp [z])) (fun z => hb (by simp [z])) q)) hf (Nat.le_refl _) new
    refine ⟨.ref s.heap.objs.size, _, I1, rfl, ⟨_, x, rfl, I.hok.fresh (Nat.le_refl _), rfl, fun ys hy => by rw [I.tuple_inj hy hq]; exact hx⟩, ⟨⟨u, ?_⟩, hit'.1.at fun o q => (sb.2 it (Ne.symm hne)).trans q, hne⟩, fun b hb => ?_⟩
    · have e1 : ((i + 1 : Nat) : Int) = (i : Int) + 1 := by omega
      rw [e1]; exact he'
    · have hb' : b < s.heap.objs.size := by
        have e' : b = e ∨ b = it := by simpa using hb
        rcases e' with z | z
        · rw [z]; exact hel
        · rw [z]; exact hil
      rw [upd_ne (Nat.ne_of_lt hb')]
      exact (hf b hb).1
  done := by
    intro X hP hw hK hc i pins s σ H E I hf st hg
    subst hP hw hK
    obtain ⟨⟨old, he⟩, hit, hne⟩ := st
    obtain ⟨xs, hq, hx⟩ := hg
    obtain ⟨its, rv, p, hz⟩ := I.tuple hq
    obtain ⟨f0, f1, f2, f3, f4, f5⟩ := hf it (by simp)
    have hl := rv.length
    have hT : s.heap.IsTuple a its.toArray := by
      obtain ⟨o, e1, c1, n1, d1⟩ := p
      exact ⟨o, e1, c1, n1, d1⟩
    have hT : s.TypeIs (.ref e) "enumerate" := ⟨_, he, rfl⟩
    unfold pyNext
    refine wpAny_bind (wpAny_attempt (wpAny_callSpecial?_slot (name := Str.ofString "__next__") hT F.slot_enumerate_next
      (wpAny_call_entry F.slot_enumerate_next hT F.entry_enumerate_next ?_ (F.args_enumerate_next_1 _))))
    show wpAny _ _ (field (.ref e) 2 >>= _) _ _ _
    refine wpAny_bind (wpAny_field he rfl (x := .ref it) rfl ?_)
    refine wpAny_bind (wpAny_nextOf_tuple_end (A := X.A.in1) (items := its.toArray) (i := i) (I.ok.hd hc) hit (by
      obtain ⟨o, e1, c1, n1, d1⟩ := p
      exact ⟨o, e1, c1, n1, d1⟩) (by simp; omega) fun h' x eb hx' => ?_)
    obtain ⟨o, ho, hcl⟩ := hx'
    refine wpAny_bind (wpAny_isInstance (T := "StopIteration") (b := true) ⟨o, ho, hcl⟩ isSubtype_stop ?_)
    exact wpAny_pure ⟨rfl, I.turned (t' := s.toks) (fun b o hb q => eb b o hb q) f0 f1 f3 f4 f5⟩
  self := fun A i s Q E st h => let ⟨⟨_, he⟩, _⟩ := st; wpAny_pyIter_enum he h
def iEnumA (K : PySem.W.Frag) (ta : TA) : TI := fun σ H R => ta σ H fun vs H1 => ∃ a xs, vs = [.ref a] ∧ ((SqL K H1 a xs ∧ R (Ite K a) H1) ∨ (SqT K H1 a xs ∧ R (IteT K a) H1))
theorem pi_enumA {X : Cx} {e : Expr} {ta : TA} {p pos tpos : Pos} {elts : List Expr} {kk : Nat} (hg : Gl X "enumerate") (hm : X.mg "enumerate" = none) (ha : PA X [e] ta) (hs : starEach [e] X.env = [(false, eval e X.env)]) :
    PI X (.Tuple elts kk tpos) (.Call (.Name "enumerate" p) [e] [] pos) (iEnumA X.K ta) := by
  refine ⟨fun pins s σ H R I h => ?_⟩
  refine Call_ (ld_blt I hg hm boot_enumerate (PyProof.Rows.callWith_type1 (thn (ha.run pos pins s σ H _ I h) fun us s1 ⟨vs, H1, I1, r1, q1⟩ => ?_) hs rfl))
  obtain ⟨a, xs, ex, q⟩ := q1
  subst ex
  cases r1 with
  | cons r rr =>
    cases rr
    cases r
    rcases q with ⟨hq, q⟩ | ⟨hq, q⟩
    · obtain ⟨its, rv, p', hz⟩ := I1.list hq
      refine call_enumerate_list p'.isList fun h' he hit hsz hk => wpAny_pyIter_enum he ?_
      have I2 : Inv X pins σ H1 { s1 with heap := h' } := I1.kept (t' := s1.toks) hk
      refine ⟨s1.heap.objs.size + 1, [s1.heap.objs.size + 1, s1.heap.objs.size], _, _, H1, rfl, I2, turn_enum a (s1.heap.objs.size + 1) s1.heap.objs.size, ⟨⟨.none, he⟩, hit, Nat.succ_ne_self _⟩, fun b hb => ?_, q⟩
      have e' : b = s1.heap.objs.size + 1 ∨ b = s1.heap.objs.size := by simpa using hb
      have hle : s1.heap.objs.size ≤ b := by
        rcases e' with z | z
        · rw [z]; exact Nat.le_add_right _ _
        · rw [z]; exact Nat.le_refl _
      exact I1.fpOk hle (I1.hok.fresh hle)
    · obtain ⟨its, rv, p', hz⟩ := I1.tuple hq
      have hal : a < s1.heap.objs.size := p'.lt
      have hT : s1.heap.IsTuple a its.toArray := by
        obtain ⟨o, e1, c1, n1, d1⟩ := p'
        exact ⟨o, e1, c1, n1, d1⟩
      refine call_enum1 (begins_tuple a its.toArray) hT fun h' he hit hsz hk => wpAny_pyIter_enum he ?_
      have I2 : Inv X pins σ H1 { s1 with heap := h' } := I1.kept (t' := s1.toks) hk
      refine ⟨s1.heap.objs.size + 1, [s1.heap.objs.size + 1, s1.heap.objs.size], _, _, H1, rfl, I2, turn_enumT a (s1.heap.objs.size + 1) s1.heap.objs.size (Nat.ne_of_lt hal) (Nat.ne_of_lt (Nat.lt_succ_of_lt hal)), ⟨⟨.none, he⟩, ⟨_, hit, rfl, rfl⟩, Nat.succ_ne_self _⟩, fun b hb => ?_, q⟩
      have e' : b = s1.heap.objs.size + 1 ∨ b = s1.heap.objs.size := by simpa using hb
      have hle : s1.heap.objs.size ≤ b := by
        rcases e' with z | z
        · rw [z]; exact Nat.le_add_right _ _
        · rw [z]; exact Nat.le_refl _
      exact I1.fpOk hle (I1.hok.fresh hle)
/-! ### a tuple of texts that the module names -/
def TixOk (K : PySem.W.Frag) (mg : Str → Option Value) (x : Str) (ys : List Str) : Prop := mg x = some (.ref (He.ga K x)) ∧ (∀ H : Hp, SqT K H (He.ga K x) (ys.map V.str)) ∧ ∃ o, K.lookup (He.ga K x) = some o ∧ o.cls = .type "tuple" ∧ o.dict = none
def tixB (K : PySem.W.Frag) (x : Str) : Bool := match K.lookup (He.ga K x) with
  | some ⟨.type "tuple", none, _, _⟩ => true
  | _ => false
theorem tixB_ok {K : PySem.W.Frag} {x : Str} (h : tixB K x = true) : ∃ o, K.lookup (He.ga K x) = some o ∧ o.cls = .type "tuple" ∧ o.dict = none := by
  unfold tixB at h
  split at h
  · rename_i e; exact ⟨_, e, rfl, rfl⟩
  · cases h
end Ev
set_option Elab.async false
set_option linter.all false
set_option maxRecDepth 100000
set_option maxHeartbeats 4000000
namespace Ev
open PySem PySem.Spec PyProof.Rows L2
open PySem.SeqAt
/-! ### a == b -/
section
variable {X : Cx} {pins : List (Addr × Obj)} {σ : L2.St} {H : Hp} {s : Shared}
theorem lq {K : PySem.W.Frag} {H : Hp} {a : Addr} {xs : List V} (h : H a = some (.lst xs)) : SqL K H a xs := .inl (.inl h)
theorem no_both (I : Inv X pins σ H s) {a : Addr} {xs ys : List V} (h : SqL X.K H a xs) (k : SqT X.K H a ys) : False := by
  obtain ⟨_, _, ⟨o, n, e, c, _⟩, _⟩ := I.list h
  obtain ⟨_, _, ⟨o', e', c', _⟩, _⟩ := I.tuple k
  rw [e] at e'; cases e'
  rw [c] at c'
  injection c' with z
  exact absurd z (by decide)
mutual
theorem RelD.uniq (I : Inv X pins σ H s) : ∀ (d e : D) (v : V), D.nod d = true → D.nod e = true → RelD X.K H v d → RelD X.K H v e → d = e
  | .non, e, v, _, _, h, k => by cases h; cases k; rfl
  | .bl _, e, v, _, _, h, k => by cases h; cases k; rfl
  | .int _, e, v, _, _, h, k => by cases h; cases k; rfl
  | .str _, e, v, _, _, h, k => by cases h; cases k; rfl
  | .lst ds, e, v, n1, n2, h, k => by
    cases h with
    | lst h1 h2 =>
      cases k with
      | lst k1 k2 =>
        have z := I.list_inj (lq h1) (lq k1)
        subst z
        rw [RelDs.uniq I ds _ _ n1 n2 h2 k2]
      | tup k1 k2 => exact (no_both I (lq h1) k1).elim
      | _ => cases n2
  | .tup ds, e, v, n1, n2, h, k => by
    cases h with
    | tup h1 h2 =>
      cases k with
      | tup k1 k2 =>
        have z := I.tuple_inj h1 k1
        subst z
        rw [RelDs.uniq I ds _ _ n1 n2 h2 k2]
      | lst k1 k2 => exact (no_both I (lq k1) h1).elim
      | _ => cases n2
  | .dic _ _, _, _, n1, _, _, _ => by cases n1
  | .scr _, _, _, n1, _, _, _ => by cases n1
  | .exv _ _ _, _, _, n1, _, _, _ => by cases n1
theorem RelDs.uniq (I : Inv X pins σ H s) : ∀ (d e : List D) (v : List V), D.nods d = true → D.nods e = true → RelDs X.K H v d → RelDs X.K H v e → d = e
  | [], e, v, _, _, h, k => by cases h; cases k; rfl
  | d :: ds, e, v, n1, n2, h, k => by
    cases h with
    | cons h1 h2 =>
      cases k with
      | cons k1 k2 =>
        have m1 := Bool.and_eq_true_iff.mp n1
        have m2 := Bool.and_eq_true_iff.mp n2
        rw [RelD.uniq I d _ _ m1.1 m2.1 h1 k1, RelDs.uniq I ds _ _ m1.2 m2.2 h2 k2]
end
mutual
theorem D.eqv_self : ∀ d : D, D.nod d = true → D.eqv d d = true
  | .non, _ => rfl
  | .bl b, _ => by simp [D.eqv]
  | .int _, _ => by simp [D.eqv]
  | .str _, _ => by simp [D.eqv]
  | .lst ds, n => by simp only [D.eqv]; exact D.eqvs_self ds n
  | .tup ds, n => by simp only [D.eqv]; exact D.eqvs_self ds n
  | .dic _ _, n => by cases n
  | .scr _, n => by cases n
  | .exv _ _ _, n => by cases n
theorem D.eqvs_self : ∀ d : List D, D.nods d = true → D.eqvs d d = true
  | [], _ => rfl
  | d :: ds, n => by
    have m := Bool.and_eq_true_iff.mp n
    simp only [D.eqvs, D.eqv_self d m.1, D.eqvs_self ds m.2, Bool.and_self]
end
def atEq (xs ys : List D) (j : Nat) : Bool := D.eqv (xs.getD j .non) (ys.getD j .non)
theorem eqvs_all : ∀ (xs ys : List D), D.eqvs xs ys = ((List.range (min xs.length ys.length)).all (atEq xs ys) && xs.length == ys.length)
  | [], [] => rfl
  | [], _ :: _ => rfl
  | _ :: _, [] => rfl
  | x :: xs, y :: ys => by
    have e : min (x :: xs).length (y :: ys).length = min xs.length ys.length + 1 := by simp only [List.length_cons]; omega
    rw [D.eqvs, eqvs_all xs ys, e, List.range_succ_eq_map, List.all_cons, List.all_map]
    have e2 : (atEq (x :: xs) (y :: ys) ∘ Nat.succ) = atEq xs ys := by
      funext j
      rfl
    rw [e2]
    show (D.eqv x y && _) = ((D.eqv x y && _) && _)
    have e3 : ((x :: xs).length == (y :: ys).length) = (xs.length == ys.length) := by
      rw [Bool.eq_iff_iff]
      simp
    rw [e3, Bool.and_assoc]
theorem eqvs_same {xs ys : List D} (h : xs.length = ys.length) : D.eqvs xs ys = (List.range xs.length).all (atEq xs ys) := by
  rw [eqvs_all, h, Nat.min_self]
  simp
theorem eqvs_unlike {xs ys : List D} (h : xs.length ≠ ys.length) : D.eqvs xs ys = false := by
  rw [eqvs_all]
  have : (xs.length == ys.length) = false := by simpa using h
  rw [this, Bool.and_false]
mutual
theorem eqAt_rel (I : Inv X pins σ H s) : ∀ (d e : D) (A : Around) (x y : V) (v u : Value), RelD X.K H x d → RelD X.K H y e → RelV x v → RelV y u → D.nod d = true → D.nod e = true → A.units + min (D.dep d) (D.dep e) < cLine → EqAt A s v u (D.eqv d e)
  | .non, e, A, x, y, v, u, h, k, r, q, _, n2, hu => by
    cases h
    cases r
    have hu' : A.units < cLine := by omega
    cases k with
    | non => cases q; exact .same _
    | bl b => cases q; exact .none_bool b
    | int i => obtain ⟨t, rfl⟩ := q; exact .none_int i t
    | str z => obtain ⟨t, rfl⟩ := q; exact .none_str z t
    | lst k1 _ =>
      cases q
      obtain ⟨its, _, p, _⟩ := I.list (lq k1)
      exact .none_list p.isList hu'
    | tup k1 _ =>
      cases q
      obtain ⟨its, _, p, _⟩ := I.tuple k1
      exact .none_tuple p hu'
    | _ => cases n2
  | .bl a, e, A, x, y, v, u, h, k, r, q, _, n2, hu => by
    cases h
    cases r
    have hu' : A.units < cLine := by omega
    cases k with
    | non => cases q; exact .bool_none a
    | bl b => cases q; exact .bool_bool a b
    | int i => obtain ⟨t, rfl⟩ := q; exact .bool_int a i t
    | str z => obtain ⟨t, rfl⟩ := q; exact .bool_str a z t
    | lst k1 _ =>
      cases q
      obtain ⟨its, _, p, _⟩ := I.list (lq k1)
      exact .bool_list a p.isList hu'
    | tup k1 _ =>
      cases q
      obtain ⟨its, _, p, _⟩ := I.tuple k1
      exact .bool_tuple a p hu'
    | _ => cases n2
  | .int a, e, A, x, y, v, u, h, k, r, q, _, n2, hu => by
    cases h
    obtain ⟨ta, rfl⟩ := r
    have hu' : A.units < cLine := by omega
    cases k with
    | non => cases q; exact .int_none a ta
    | bl b => cases q; exact .int_bool a ta b
    | int i => obtain ⟨t, rfl⟩ := q; exact .int_int a ta i t
    | str z => obtain ⟨t, rfl⟩ := q; exact .int_str a ta z t
    | lst k1 _ =>
      cases q
      obtain ⟨its, _, p, _⟩ := I.list (lq k1)
      exact .int_list a ta p.isList hu'
    | tup k1 _ =>
      cases q
      obtain ⟨its, _, p, _⟩ := I.tuple k1
      exact .int_tuple a ta p hu'
    | _ => cases n2
  | .str a, e, A, x, y, v, u, h, k, r, q, _, n2, hu => by
    cases h
    obtain ⟨ta, rfl⟩ := r
    have hu' : A.units < cLine := by omega
    cases k with
    | non => cases q; exact .str_none a ta
    | bl b => cases q; exact .str_bool a ta b
    | int i => obtain ⟨t, rfl⟩ := q; exact .str_int a ta i t
    | str z => obtain ⟨t, rfl⟩ := q; exact .str_str a ta z t
    | lst k1 _ =>
      cases q
      obtain ⟨its, _, p, _⟩ := I.list (lq k1)
      exact .str_list a ta p.isList hu'
    | tup k1 _ =>
      cases q
      obtain ⟨its, _, p, _⟩ := I.tuple k1
      exact .str_tuple a ta p hu'
    | _ => cases n2
  | .lst ds, e, A, x, y, v, u, h, k, r, q, n1, n2, hu => by
    cases h with
    | @lst ah xh _ h1 h2 =>
    cases r
    obtain ⟨its, rv, p, _⟩ := I.list (lq h1)
    have hu' : A.units < cLine := by omega
    cases k with
    | non => cases q; exact .list_none p.isList hu'
    | bl b => cases q; exact .list_bool b p.isList hu'
    | int i => obtain ⟨t, rfl⟩ := q; exact .list_int i t p.isList hu'
    | str z => obtain ⟨t, rfl⟩ := q; exact .list_str z t p.isList hu'
    | tup k1 _ =>
      cases q
      obtain ⟨_, _, p', _⟩ := I.tuple k1
      exact .list_tuple p.isList p' hu'
    | @lst ak xk es k1 k2 =>
      cases q
      obtain ⟨its', rv', p', _⟩ := I.list (lq k1)
      have g1 := h2.length
      have g2 := k2.length
      have g3 := rv.length
      have g4 := rv'.length
      have hu2 : A.in1.units + min (D.deps ds) (D.deps es) < cLine := by
        have : min (D.dep (.lst ds)) (D.dep (.lst es)) = min (D.deps ds) (D.deps es) + 1 := by simp only [D.dep]; omega
        show A.units + 1 + _ < cLine
        omega
      show EqAt A s (.ref ah) (.ref ak) (D.eqvs ds es)
      by_cases same : ah = ak
      · subst same
        have z : ds = es := by
          have := RelD.uniq I (.lst ds) (.lst es) _ n1 n2 (.lst h1 h2) (.lst k1 k2)
          injection this
        subst z
        rw [D.eqvs_self ds n1]
        exact .same _
      · refine .of_refs same ?_
        by_cases hl : ds.length = es.length
        · rw [eqvs_same hl]
          have z : ds.length = its.toArray.size := by rw [List.size_toArray]; omega
          rw [z]
          exact .lists p.isList p'.isList (by rw [List.size_toArray, List.size_toArray]; omega) hu' fun j j1 j2 => eqAts_rel I ds es A.in1 xh xk its its' h2 k2 rv rv' n1 n2 hu2 j (by simpa using j1) (by simpa using j2)
        · rw [eqvs_unlike hl]
          refine .lists_lengths p.isList p'.isList ?_ hu'
          have : its.toArray.size ≠ its'.toArray.size := by rw [List.size_toArray, List.size_toArray]; omega
          simpa using this
    | _ => cases n2
  | .tup ds, e, A, x, y, v, u, h, k, r, q, n1, n2, hu => by
    cases h with
    | @tup ah xh _ h1 h2 =>
    cases r
    obtain ⟨its, rv, p, _⟩ := I.tuple h1
    have hu' : A.units < cLine := by omega
    cases k with
    | non => cases q; exact .tuple_none p hu'
    | bl b => cases q; exact .tuple_bool b p hu'
    | int i => obtain ⟨t, rfl⟩ := q; exact .tuple_int i t p hu'
    | str z => obtain ⟨t, rfl⟩ := q; exact .tuple_str z t p hu'
    | lst k1 _ =>
      cases q
      obtain ⟨_, _, p', _⟩ := I.list (lq k1)
      exact .tuple_list p p'.isList hu'
    | @tup ak xk es k1 k2 =>
      cases q
      obtain ⟨its', rv', p', _⟩ := I.tuple k1
      have g1 := h2.length
      have g2 := k2.length
      have g3 := rv.length
      have g4 := rv'.length
      have hu2 : A.in1.units + min (D.deps ds) (D.deps es) < cLine := by
        have : min (D.dep (.tup ds)) (D.dep (.tup es)) = min (D.deps ds) (D.deps es) + 1 := by simp only [D.dep]; omega
        show A.units + 1 + _ < cLine
        omega
      show EqAt A s (.ref ah) (.ref ak) (D.eqvs ds es)
      by_cases same : ah = ak
      · subst same
        have z : ds = es := by
          have := RelD.uniq I (.tup ds) (.tup es) _ n1 n2 (.tup h1 h2) (.tup k1 k2)
          injection this
        subst z
        rw [D.eqvs_self ds n1]
        exact .same _
      · refine .of_refs same ?_
        rw [eqvs_all]
        have z : ds.length = its.toArray.size := by rw [List.size_toArray]; omega
        have z' : es.length = its'.toArray.size := by rw [List.size_toArray]; omega
        rw [z, z']
        exact .tuples p p' hu' fun j j1 j2 => eqAts_rel I ds es A.in1 xh xk its its' h2 k2 rv rv' n1 n2 hu2 j (by simpa using j1) (by simpa using j2)
    | _ => cases n2
  | .dic _ _, _, _, _, _, _, _, _, _, _, _, n1, _, _ => by cases n1
  | .scr _, _, _, _, _, _, _, _, _, _, _, n1, _, _ => by cases n1
  | .exv _ _ _, _, _, _, _, _, _, _, _, _, _, n1, _, _ => by cases n1
theorem eqAts_rel (I : Inv X pins σ H s) : ∀ (ds es : List D) (A : Around) (xs ys : List V) (vs us : List Value), RelDs X.K H xs ds → RelDs X.K H ys es → Vals xs vs → Vals ys us → D.nods ds = true → D.nods es = true → A.units + min (D.deps ds) (D.deps es) < cLine →
    ∀ j (h1 : j < vs.length) (h2 : j < us.length), EqAt A s vs[j] us[j] (atEq ds es j)
  | [], _, _, _, _, _, _, h, _, r, _, _, _, _, j, h1, _ => by cases h; cases r; exact absurd h1 (Nat.not_lt_zero _)
  | _ :: _, [], _, _, _, _, _, _, k, _, q, _, _, _, j, _, h2 => by cases k; cases q; exact absurd h2 (Nat.not_lt_zero _)
  | d :: ds, e :: es, A, _, _, _, _, h, k, r, q, n1, n2, hu, j, h1, h2 => by
    have m1 := Bool.and_eq_true_iff.mp n1
    have m2 := Bool.and_eq_true_iff.mp n2
    have b1 : D.dep d ≤ D.deps (d :: ds) := Nat.le_max_left _ _
    have b2 : D.dep e ≤ D.deps (e :: es) := Nat.le_max_left _ _
    have b3 : D.deps ds ≤ D.deps (d :: ds) := Nat.le_max_right _ _
    have b4 : D.deps es ≤ D.deps (e :: es) := Nat.le_max_right _ _
    cases h with
    | cons ha hb =>
      cases k with
      | cons ka kb =>
        cases r with
        | cons ra rb =>
          cases q with
          | cons qa qb =>
            cases j with
            | zero => exact eqAt_rel I d e A _ _ _ _ ha ka ra qa m1.1 m2.1 (by omega)
            | succ j => exact eqAts_rel I ds es A _ _ _ _ hb kb rb qb m1.2 m2.2 (by omega) j (by simpa using h1) (by simpa using h2)
end
end
end Ev
set_option Elab.async false
set_option linter.all false
set_option maxRecDepth 100000
set_option maxHeartbeats 4000000
namespace Ev
open PySem PySem.Spec PyProof.Rows L2
open PySem.SeqAt
section
variable {K : PySem.W.Frag} {Hd H : Hp} {v : V}
theorem PkD.int {i : Int} (h : PkD K Hd H v (.int i)) : v = .int i := by
  rcases h with h | ⟨_, _, _, _, e, _⟩
  · cases h; rfl
  · cases e
theorem PkD.str {i : Str} (h : PkD K Hd H v (.str i)) : v = .str i := by
  rcases h with h | ⟨_, _, _, _, e, _⟩
  · cases h; rfl
  · cases e
theorem PkD.bl {i : Bool} (h : PkD K Hd H v (.bl i)) : v = .bl i := by
  rcases h with h | ⟨_, _, _, _, e, _⟩
  · cases h; rfl
  · cases e
theorem PkD.non (h : PkD K Hd H v .non) : v = .non := by
  rcases h with h | ⟨_, _, _, _, e, _⟩
  · cases h; rfl
  · cases e
theorem PkD.scr {ns : List Int} (le : Le Hd H) (h : PkD K Hd H v (.scr ns)) : ∃ a, v = .ref a ∧ SqL K H a (ns.map V.int) := by
  rcases h with h | ⟨_, _, _, _, e, _⟩
  · cases h with
    | scr hs => exact ⟨_, rfl, le.sql hs⟩
  · cases e
end
def rD2 (K : PySem.W.Frag) (f : D → D → Option D) : R2 := fun x y H Q => ∃ Hd io st dx dy dz, Rl K Hd io st H ∧ PkD K Hd H x dx ∧ PkD K Hd H y dy ∧ f dx dy = some dz ∧ Post K Hd io H (RelW K) Q (.ok (.d dz) st)
def rD1 (K : PySem.W.Frag) (f : D → Option D) : V → Hp → VK → Prop := fun x H Q => ∃ Hd io st dx dz, Rl K Hd io st H ∧ PkD K Hd H x dx ∧ f dx = some dz ∧ Post K Hd io H (RelW K) Q (.ok (.d dz) st)
def strRep (x : Str) (k : Nat) : Str := ⟨(List.replicate k x.cps).foldl (· ++ ·) #[]⟩
def binD : Operator → D → D → Option D
  | .Add, .int i, .int j => some (.int (i + j))
  | .Add, .str a, .str b => if a.length + b.length ≤ sizeLine then some (.str (a ++ b)) else none
  | .Add, .lst a, .lst b => if a.length + b.length ≤ sizeLine then some (.lst (a ++ b)) else none
  | .Add, .tup a, .tup b => if a.length + b.length ≤ sizeLine then some (.tup (a ++ b)) else none
  | .Sub, .int i, .int j => some (.int (i - j))
  | .Mult, .int i, .int j => if i.natAbs.log2 + j.natAbs.log2 < 1000000 then some (.int (i * j)) else none
  | .Mult, .lst xs, .int k => if -(2 ^ 63) ≤ k ∧ k < 2 ^ 63 ∧ xs.length * k.toNat ≤ sizeLine then some (.lst (List.replicate k.toNat xs).flatten) else none
  | .Mult, .tup xs, .int k => if xs.isEmpty = false ∧ 2 ≤ k ∧ k ≤ 1000 ∧ xs.length ≤ 1000 then some (.tup (List.replicate k.toNat xs).flatten) else none
  | .Mult, .str x, .int k => if 2 ≤ k ∧ k < 2 ^ 20 ∧ 1 ≤ x.length ∧ x.length ≤ 4 then some (.str (strRep x k.toNat)) else none
  | .Mod, .int i, .int j => if 0 < j then some (.int (i % j)) else none
  | .FloorDiv, .int i, .int j => if 0 < j ∧ j.natAbs.log2 < 9000 then some (.int (i / j)) else none
  | .Pow, .int i, .int j => if 0 ≤ j ∧ j ≤ 1000000 ∧ i.natAbs < 2 ^ 64 then some (.int (i ^ j.toNat)) else none
  | _, _, _ => none
theorem RelDs.nil_iff {K : PySem.W.Frag} {H : Hp} {vs : List V} {ds : List D} (r : RelDs K H vs ds) : vs = [] ↔ ds = [] := by
  have h := r.length
  constructor
  · intro e; subst e; exact List.length_eq_zero_iff.mp h.symm
  · intro e; subst e; exact List.length_eq_zero_iff.mp h
theorem RelDs.rep {K : PySem.W.Frag} {H : Hp} {vs : List V} {ds : List D} (r : RelDs K H vs ds) : ∀ n : Nat, RelDs K H (List.replicate n vs).flatten (List.replicate n ds).flatten
  | 0 => .nil
  | n + 1 => by
    rw [List.replicate_succ, List.replicate_succ, List.flatten_cons, List.flatten_cons]
    exact r.append (RelDs.rep r n)
theorem rep_size (a : Array Nat) : ∀ (n : Nat) (acc : Array Nat), ((List.replicate n a).foldl (· ++ ·) acc).size = acc.size + n * a.size
  | 0, acc => by simp
  | n + 1, acc => by
    rw [List.replicate_succ, List.foldl_cons, rep_size a n, Array.size_append, Nat.succ_mul]
    omega
section
variable {X : Cx}
theorem op_add2 : OpR X (binaryOp .Add) (rD2 X.K (binD .Add)) := by
  intro pins s σ H x y v u Q I rx ry h
  obtain ⟨Hd, io, st, dx, dy, dz, l, px, py, e, q⟩ := h
  cases dx <;> cases dy <;> try (cases e; done)
  case int.int i j =>
    cases e
    rw [px.int] at rx; rw [py.int] at ry
    exact op_add pins s σ H _ _ v u Q I rx ry ⟨i, j, rfl, rfl, q.here l (.int _)⟩
  case str.str a b =>
    have e' : (if a.length + b.length ≤ sizeLine then some (D.str (a ++ b)) else none) = some dz := e
    by_cases hz : a.length + b.length ≤ sizeLine
    · rw [if_pos hz] at e'
      cases e'
      rw [px.str] at rx; rw [py.str] at ry
      exact op_add_str pins s σ H _ _ v u Q I rx ry ⟨a, b, rfl, rfl, hz, q.here l (.str _)⟩
    · rw [if_neg hz] at e'; cases e'
  case lst.lst a b =>
    have e' : (if a.length + b.length ≤ sizeLine then some (D.lst (a ++ b)) else none) = some dz := e
    by_cases hz : a.length + b.length ≤ sizeLine
    · rw [if_pos hz] at e'
      cases e'
      obtain ⟨p1, vs, rfl, h1, r1⟩ := px.list l.sub
      obtain ⟨p2, us, rfl, h2, r2⟩ := py.list l.sub
      exact op_cat pins s σ H _ _ v u Q I rx ry ⟨p1, p2, vs, us, rfl, rfl, h1, h2, by rw [r1.length, r2.length]; exact hz, fun p hp => q.newLst l (r1.append r2) hp⟩
    · rw [if_neg hz] at e'; cases e'
  case tup.tup a b =>
    have e' : (if a.length + b.length ≤ sizeLine then some (D.tup (a ++ b)) else none) = some dz := e
    by_cases hz : a.length + b.length ≤ sizeLine
    · rw [if_pos hz] at e'
      cases e'
      obtain ⟨p1, vs, rfl, h1, r1⟩ := px.tuple l.sub
      obtain ⟨p2, us, rfl, h2, r2⟩ := py.tuple l.sub
      have w1 : RelD X.K Hd (.ref p1) (.tup a) := by
        rcases px with px | ⟨_, _, _, _, e, _⟩
        · exact px
        · cases e
      have w2 : RelD X.K Hd (.ref p2) (.tup b) := by
        rcases py with py | ⟨_, _, _, _, e, _⟩
        · exact py
        · cases e
      refine op_catA pins s σ H _ _ v u Q I rx ry ⟨p1, p2, vs, us, rfl, rfl, h1, h2, by rw [r1.length, r2.length]; exact hz, fun z => ?_, fun z z2 => ?_, fun z z2 p hp => q.newTup l (r1.append r2) hp⟩
      · rw [r1.nil_iff] at z; subst z
        exact q.here l w2
      · rw [r2.nil_iff] at z2; subst z2
        rw [List.append_nil] at q
        exact q.here l w1
    · rw [if_neg hz] at e'; cases e'
theorem op_sub2 : OpR X (binaryOp .Sub) (rD2 X.K (binD .Sub)) := by
  intro pins s σ H x y v u Q I rx ry h
  obtain ⟨Hd, io, st, dx, dy, dz, l, px, py, e, q⟩ := h
  cases dx <;> cases dy <;> try (cases e; done)
  case int.int i j =>
    cases e
    rw [px.int] at rx; rw [py.int] at ry
    exact op_sub pins s σ H _ _ v u Q I rx ry ⟨i, j, rfl, rfl, q.here l (.int _)⟩
theorem op_mod2 : OpR X (binaryOp .Mod) (rD2 X.K (binD .Mod)) := by
  intro pins s σ H x y v u Q I rx ry h
  obtain ⟨Hd, io, st, dx, dy, dz, l, px, py, e, q⟩ := h
  cases dx <;> cases dy <;> try (cases e; done)
  case int.int i j =>
    have e' : (if 0 < j then some (D.int (i % j)) else none) = some dz := e
    by_cases hz : 0 < j
    · rw [if_pos hz] at e'
      cases e'
      rw [px.int] at rx; rw [py.int] at ry
      exact op_mod pins s σ H _ _ v u Q I rx ry ⟨i, j, rfl, rfl, hz, q.here l (.int _)⟩
    · rw [if_neg hz] at e'; cases e'
theorem op_fdiv2 : OpR X (binaryOp .FloorDiv) (rD2 X.K (binD .FloorDiv)) := by
  intro pins s σ H x y v u Q I rx ry h
  obtain ⟨Hd, io, st, dx, dy, dz, l, px, py, e, q⟩ := h
  cases dx <;> cases dy <;> try (cases e; done)
  case int.int i j =>
    have e' : (if 0 < j ∧ j.natAbs.log2 < 9000 then some (D.int (i / j)) else none) = some dz := e
    by_cases hz : 0 < j ∧ j.natAbs.log2 < 9000
    · rw [if_pos hz] at e'
      cases e'
      rw [px.int] at rx; rw [py.int] at ry
      exact op_fdivW pins s σ H _ _ v u Q I rx ry ⟨i, j, rfl, rfl, hz, q.here l (.int _)⟩
    · rw [if_neg hz] at e'; cases e'
theorem op_pow2 : OpR X (binaryOp .Pow) (rD2 X.K (binD .Pow)) := by
  intro pins s σ H x y v u Q I rx ry h
  obtain ⟨Hd, io, st, dx, dy, dz, l, px, py, e, q⟩ := h
  cases dx <;> cases dy <;> try (cases e; done)
  case int.int i j =>
    have e' : (if 0 ≤ j ∧ j ≤ 1000000 ∧ i.natAbs < 2 ^ 64 then some (D.int (i ^ j.toNat)) else none) = some dz := e
    by_cases hz : 0 ≤ j ∧ j ≤ 1000000 ∧ i.natAbs < 2 ^ 64
    · rw [if_pos hz] at e'
      cases e'
      rw [px.int] at rx; rw [py.int] at ry
      exact op_pow pins s σ H _ _ v u Q I rx ry ⟨i, j, rfl, rfl, hz, q.here l (.int _)⟩
    · rw [if_neg hz] at e'; cases e'
theorem op_mult2 : OpR X (binaryOp .Mult) (rD2 X.K (binD .Mult)) := by
  intro pins s σ H x y v u Q I rx ry h
  obtain ⟨Hd, io, st, dx, dy, dz, l, px, py, e, q⟩ := h
  cases dx <;> cases dy <;> try (cases e; done)
  case int.int i j =>
    have e' : (if i.natAbs.log2 + j.natAbs.log2 < 1000000 then some (D.int (i * j)) else none) = some dz := e
    by_cases hz : i.natAbs.log2 + j.natAbs.log2 < 1000000
    · rw [if_pos hz] at e'
      cases e'
      rw [px.int] at rx; rw [py.int] at ry
      exact op_mulW pins s σ H _ _ v u Q I rx ry ⟨i, j, rfl, rfl, hz, q.here l (.int _)⟩
    · rw [if_neg hz] at e'; cases e'
  case lst.int xs k =>
    have e' : (if -(2 ^ 63) ≤ k ∧ k < 2 ^ 63 ∧ xs.length * k.toNat ≤ sizeLine then some (D.lst (List.replicate k.toNat xs).flatten) else none) = some dz := e
    by_cases hz : -(2 ^ 63) ≤ k ∧ k < 2 ^ 63 ∧ xs.length * k.toNat ≤ sizeLine
    · rw [if_pos hz] at e'
      cases e'
      obtain ⟨p1, vs, rfl, h1, r1⟩ := px.list l.sub
      rw [py.int] at ry
      obtain ⟨z1, z2, z3⟩ := hz
      exact op_rep pins s σ H _ _ v u Q I rx ry ⟨p1, k, vs, rfl, rfl, h1, z1, z2, by rw [r1.length]; exact z3, fun p hp => q.newLst l (r1.rep _) hp⟩
    · rw [if_neg hz] at e'; cases e'
  case tup.int xs k =>
    have e' : (if xs.isEmpty = false ∧ 2 ≤ k ∧ k ≤ 1000 ∧ xs.length ≤ 1000 then some (D.tup (List.replicate k.toNat xs).flatten) else none) = some dz := e
    by_cases hz : xs.isEmpty = false ∧ 2 ≤ k ∧ k ≤ 1000 ∧ xs.length ≤ 1000
    · rw [if_pos hz] at e'
      cases e'
      obtain ⟨p1, vs, rfl, h1, r1⟩ := px.tuple l.sub
      rw [py.int] at ry
      obtain ⟨z0, z1, z2, z3⟩ := hz
      exact op_repT pins s σ H _ _ v u Q I rx ry ⟨p1, k, vs, rfl, rfl, h1, (fun z => by rw [r1.nil_iff] at z; subst z; cases z0), z1, z2, by rw [r1.length]; exact z3, fun p hp => q.newTup l (r1.rep _) hp⟩
    · rw [if_neg hz] at e'; cases e'
  case str.int a k =>
    have e' : (if 2 ≤ k ∧ k < 2 ^ 20 ∧ 1 ≤ a.length ∧ a.length ≤ 4 then some (D.str (strRep a k.toNat)) else none) = some dz := e
    by_cases hz : 2 ≤ k ∧ k < 2 ^ 20 ∧ 1 ≤ a.length ∧ a.length ≤ 4
    · rw [if_pos hz] at e'
      cases e'
      rw [px.str] at rx; rw [py.int] at ry
      obtain ⟨t, rfl⟩ := rx
      obtain ⟨t', rfl⟩ := ry
      obtain ⟨z1, z2, z3, z4⟩ := hz
      have hk : (k.toNat : Int) = k := by omega
      refine PySem.P.mul_str ?_ (fun _ _ => ?_) (fun _ _ => ?_) ?_
      · rw [decide_eq_false (by omega), decide_eq_false (by omega)]; rfl
      · have hn : (2 ^ 20 : Int) ≤ (2 ^ 63 - 1) / k := (Int.le_ediv_iff_mul_le (by omega)).mpr (by omega)
        omega
      · have hs : sizeLine = 16777216 := sizeLine_eq
        have : a.length * k.toNat ≤ 4 * 2 ^ 20 := Nat.mul_le_mul z4 (by omega)
        exact PyProof.Rows.short24 (by omega)
      · rw [if_neg (by omega)]
        have hb : (k == 1 || a.length == 0) = false := by
          rw [Bool.or_eq_false_iff]
          exact ⟨by simpa using (by omega : k ≠ 1), by simpa using (by omega : a.length ≠ 0)⟩
        rw [hb]
        rw [if_neg Bool.false_ne_true]
        refine ⟨?_, .str (strRep a k.toNat), H, I.tok _, ⟨_, rfl⟩, q.here l (.str _)⟩
        have hs : sizeLine = 16777216 := sizeLine_eq
        have e1 : (strRep a k.toNat).length = k.toNat * a.length := by
          show (strRep a k.toNat).cps.size = k.toNat * a.cps.size
          unfold strRep
          rw [rep_size]
          simp
        have : k.toNat * a.length ≤ 2 ^ 20 * 4 := Nat.mul_le_mul (by omega) z4
        show (strRep a k.toNat).length ≤ sizeLine
        omega
    · rw [if_neg hz] at e'; cases e'
theorem op_bin (op : Operator) : OpR X (binaryOp op) (rD2 X.K (binD op)) := by
  cases op
  case Add => exact op_add2
  case Sub => exact op_sub2
  case Mult => exact op_mult2
  case Mod => exact op_mod2
  case FloorDiv => exact op_fdiv2
  case Pow => exact op_pow2
  all_goals
    intro pins s σ H x y v u Q I rx ry h
    obtain ⟨Hd, io, st, dx, dy, dz, l, px, py, e, q⟩ := h
    cases dx <;> cases dy <;> cases e
end
end Ev
set_option Elab.async false
set_option linter.all false
set_option maxRecDepth 100000
set_option maxHeartbeats 4000000
namespace Ev
open PySem PySem.Spec PyProof.Rows L2
open PySem.SeqAt
/-! ### data as it is read -/
mutual
def D.py : D → PyData
  | .non => .none | .bl b => .bool b | .int i => .int i | .str s => .str s
  | .lst xs => .list (D.pys xs) | .tup xs => .tuple (D.pys xs) | .dic _ _ => .none | .scr _ => .none | .exv _ _ _ => .none
def D.pys : List D → List PyData
  | [] => []
  | x :: xs => D.py x :: D.pys xs
end
mutual
theorem RelD.reads {X : Cx} {pins : List (Addr × Obj)} {σ : L2.St} {H : Hp} {s : Shared} (I : Inv X pins σ H s) : ∀ (d : D) (v : V) (u : Value), D.nod d = true → RelD X.K H v d → RelV v u → ∃ as, Reads s.heap u d.py as
  | .non, _, _, _, h, r => by cases h; cases r; exact ⟨_, .none⟩
  | .bl b, _, _, _, h, r => by cases h; cases r; exact ⟨_, .bool b⟩
  | .int i, _, _, _, h, r => by cases h; obtain ⟨t, rfl⟩ := r; exact ⟨_, .int i t⟩
  | .str i, _, _, _, h, r => by cases h; obtain ⟨t, rfl⟩ := r; exact ⟨_, .str i t⟩
  | .lst ds, _, _, n, h, r => by
    cases h with
    | lst a b =>
      cases r
      obtain ⟨its, rv, ⟨o, k, e1, e2, _, e3⟩, _⟩ := I.list (lq a)
      obtain ⟨as, q⟩ := RelDs.reads I ds _ its n b rv
      exact ⟨_, .list e1 e2 e3 q⟩
  | .tup ds, _, _, n, h, r => by
    cases h with
    | tup a b =>
      cases r
      obtain ⟨its, rv, ⟨o, e1, e2, k, e3⟩, _⟩ := I.tuple a
      obtain ⟨as, q⟩ := RelDs.reads I ds _ its n b rv
      exact ⟨_, .tuple e1 e2 e3 q⟩
  | .dic _ _, _, _, n, _, _ => by cases n
  | .scr _, _, _, n, _, _ => by cases n
  | .exv _ _ _, _, _, n, _, _ => by cases n
theorem RelDs.reads {X : Cx} {pins : List (Addr × Obj)} {σ : L2.St} {H : Hp} {s : Shared} (I : Inv X pins σ H s) : ∀ (d : List D) (v : List V) (u : List Value), D.nods d = true → RelDs X.K H v d → Vals v u → ∃ as, ReadsAll s.heap u (D.pys d) as
  | [], _, _, _, h, r => by cases h; cases r; exact ⟨_, .nil⟩
  | d :: ds, _, _, n, h, r => by
    have m := Bool.and_eq_true_iff.mp n
    cases h with
    | cons a b =>
      cases r with
      | cons r1 r2 =>
        obtain ⟨as, q1⟩ := RelD.reads I d _ _ m.1 a r1
        obtain ⟨bs, q2⟩ := RelDs.reads I ds _ _ m.2 b r2
        exact ⟨_, .cons q1 q2⟩
end
def D.isNon : D → Bool
  | .non => true
  | _ => false
def ordD (f : PyData → PyData → Bool) (d e : D) : Option Bool := if (D.nod d && (D.nod e && (PySem.W.alike d.py e.py && (decide (min d.py.depth e.py.depth ≤ 60) && !d.isNon)))) = true then some (f d.py e.py) else none
theorem ordD_ok {f : PyData → PyData → Bool} {d e : D} {b : Bool} (h : ordD f d e = some b) : D.nod d = true ∧ D.nod e = true ∧ PySem.W.alike d.py e.py = true ∧ min d.py.depth e.py.depth ≤ 60 ∧ d.isNon = false ∧ f d.py e.py = b := by
  unfold ordD at h
  split at h
  · rename_i z
    simp only [Bool.and_eq_true, decide_eq_true_eq, Bool.not_eq_true'] at z
    cases h
    exact ⟨z.1, z.2.1, z.2.2.1, z.2.2.2.1, z.2.2.2.2, rfl⟩
  · cases h
end Ev
set_option Elab.async false
set_option linter.all false
set_option maxRecDepth 100000
set_option maxHeartbeats 4000000
namespace Ev
open PySem PySem.Spec PyProof.Rows L2
open PySem.SeqAt
def shallow (d e : D) : Bool := D.nod d && D.nod e && decide (min (D.dep d) (D.dep e) ≤ 60)
def lenNe : D → D → Bool
  | .lst ds, .lst es => ds.length != es.length
  | _, _ => false
def eqD (d e : D) : Option Bool := if lenNe d e = true then some false else if shallow d e = true then some (D.eqv d e) else none
def strLt (a b : Str) : Bool := decide (a.cps.toList < b.cps.toList)
def strLe (a b : Str) : Bool := !decide (b.cps.toList < a.cps.toList)
def inList (d : D) (ds : List D) : Option Bool := if D.nod d && D.nods ds && decide (min (D.deps ds) (D.dep d) ≤ 60) then some (ds.any fun y => D.eqv y d) else none
def inD : D → D → Option Bool
  | .str a, .str b => some (!(Builtin.Str.occurrences b a 0 b.length 1).isEmpty)
  | d, .lst ds => inList d ds
  | d, .tup ds => inList d ds
  | _, _ => none
def isD : D → D → Option Bool
  | d, .non => some (D.isNon d)
  | .bl a, .bl b => some (decide (a = b))
  | _, _ => none
def cmpD : CmpOp → D → D → Option Bool
  | .Eq, d, e => eqD d e
  | .NotEq, d, e => (eqD d e).map (!·)
  | .Lt, .int i, .int j => some (decide (i < j))
  | .LtE, .int i, .int j => some (decide (i ≤ j))
  | .Gt, .int i, .int j => some (decide (j < i))
  | .GtE, .int i, .int j => some (decide (j ≤ i))
  | .Lt, .str a, .str b => some (strLt a b)
  | .LtE, .str a, .str b => some (strLe a b)
  | .Gt, .str a, .str b => some (strLt b a)
  | .GtE, .str a, .str b => some (strLe b a)
  | .Lt, .tup a, .tup b => ordD PySem.W.dataLt (.tup a) (.tup b)
  | .Gt, .tup a, .tup b => ordD (fun x y => PySem.W.dataLt y x) (.tup a) (.tup b)
  | .LtE, .tup a, .tup b => ordD (fun x y => !PySem.W.dataLt y x) (.tup a) (.tup b)
  | .GtE, .tup a, .tup b => ordD (fun x y => !PySem.W.dataLt x y) (.tup a) (.tup b)
  | .Is, d, e => isD d e
  | .IsNot, d, e => (isD d e).map (!·)
  | .In, d, e => inD d e
  | .NotIn, d, e => (inD d e).map (!·)
  | _, _, _ => none
def rC2 (K : PySem.W.Frag) (f : D → D → Option Bool) : R2 := fun x y H Q => ∃ Hd io st dx dy b, Rl K Hd io st H ∧ PkD K Hd H x dx ∧ PkD K Hd H y dy ∧ f dx dy = some b ∧ Q (.bl b) H
section
variable {X : Cx} {pins : List (Addr × Obj)} {σ : L2.St} {H : Hp} {s : Shared}
theorem rcAt_rel (I : Inv X pins σ H s) (d e : D) (A : Around) (x y : V) (v u : Value) (h : RelD X.K H x d) (k : RelD X.K H y e) (r : RelV x v) (q : RelV y u) (n1 : D.nod d = true) (n2 : D.nod e = true) (hu : A.units + min (D.dep d) (D.dep e) < cLine) : RcAt A s v u (D.eqv d e) := by
  have hu' : A.units < cLine := by omega
  cases d with
  | non  =>
    cases h
    cases r
    cases e with
    | non  =>
      cases k
      cases q
      exact .none_none 
    | bl bb =>
      cases k
      cases q
      exact .none_bool _
    | int ib =>
      cases k
      obtain ⟨tb, rfl⟩ := q
      exact .none_int _ tb
    | str zb =>
      cases k
      obtain ⟨tb, rfl⟩ := q
      exact .none_str _ tb
    | lst es =>
      cases k with
      | @lst ak xk _ k1 k2 =>
      cases q
      obtain ⟨its', rv', p', _⟩ := I.list (lq k1)
      exact .none_list p'.isList hu'
    | tup es =>
      cases k with
      | @tup ak xk _ k1 k2 =>
      cases q
      obtain ⟨its', rv', p', _⟩ := I.tuple k1
      exact .none_tuple p' hu'
    | dic => cases n2
    | scr => cases n2
    | exv => cases n2
  | bl ba =>
    cases h
    cases r
    cases e with
    | non  =>
      cases k
      cases q
      exact .bool_none _ 
    | bl bb =>
      cases k
      cases q
      exact .bool_bool _ _
    | int ib =>
      cases k
      obtain ⟨tb, rfl⟩ := q
      exact .bool_int _ _ tb
    | str zb =>
      cases k
      obtain ⟨tb, rfl⟩ := q
      exact .bool_str _ _ tb
    | lst es =>
      cases k with
      | @lst ak xk _ k1 k2 =>
      cases q
      obtain ⟨its', rv', p', _⟩ := I.list (lq k1)
      exact .bool_list _ p'.isList hu'
    | tup es =>
      cases k with
      | @tup ak xk _ k1 k2 =>
      cases q
      obtain ⟨its', rv', p', _⟩ := I.tuple k1
      exact .bool_tuple _ p' hu'
    | dic => cases n2
    | scr => cases n2
    | exv => cases n2
  | int ia =>
    cases h
    obtain ⟨ta, rfl⟩ := r
    cases e with
    | non  =>
      cases k
      cases q
      exact .int_none _ ta 
    | bl bb =>
      cases k
      cases q
      exact .int_bool _ ta _
    | int ib =>
      cases k
      obtain ⟨tb, rfl⟩ := q
      exact .int_int _ ta _ tb
    | str zb =>
      cases k
      obtain ⟨tb, rfl⟩ := q
      exact .int_str _ ta _ tb
    | lst es =>
      cases k with
      | @lst ak xk _ k1 k2 =>
      cases q
      obtain ⟨its', rv', p', _⟩ := I.list (lq k1)
      exact .int_list _ ta p'.isList hu'
    | tup es =>
      cases k with
      | @tup ak xk _ k1 k2 =>
      cases q
      obtain ⟨its', rv', p', _⟩ := I.tuple k1
      exact .int_tuple _ ta p' hu'
    | dic => cases n2
    | scr => cases n2
    | exv => cases n2
  | str za =>
    cases h
    obtain ⟨ta, rfl⟩ := r
    cases e with
    | non  =>
      cases k
      cases q
      exact .str_none _ ta 
    | bl bb =>
      cases k
      cases q
      exact .str_bool _ ta _
    | int ib =>
      cases k
      obtain ⟨tb, rfl⟩ := q
      exact .str_int _ ta _ tb
    | str zb =>
      cases k
      obtain ⟨tb, rfl⟩ := q
      exact .str_str _ ta _ tb
    | lst es =>
      cases k with
      | @lst ak xk _ k1 k2 =>
      cases q
      obtain ⟨its', rv', p', _⟩ := I.list (lq k1)
      exact .str_list _ ta p'.isList hu'
    | tup es =>
      cases k with
      | @tup ak xk _ k1 k2 =>
      cases q
      obtain ⟨its', rv', p', _⟩ := I.tuple k1
      exact .str_tuple _ ta p' hu'
    | dic => cases n2
    | scr => cases n2
    | exv => cases n2
  | lst ds =>
    cases h with
    | @lst ah xh _ h1 h2 =>
    cases r
    obtain ⟨its, rv, p, _⟩ := I.list (lq h1)
    cases e with
    | non  =>
      cases k
      cases q
      exact .list_none  p.isList hu'
    | bl bb =>
      cases k
      cases q
      exact .list_bool _ p.isList hu'
    | int ib =>
      cases k
      obtain ⟨tb, rfl⟩ := q
      exact .list_int _ tb p.isList hu'
    | str zb =>
      cases k
      obtain ⟨tb, rfl⟩ := q
      exact .list_str _ tb p.isList hu'
    | lst es =>
      cases k with
      | @lst ak xk _ k1 k2 =>
      cases q
      obtain ⟨its', rv', p', _⟩ := I.list (lq k1)
      have g1 := h2.length
      have g2 := k2.length
      have g3 := rv.length
      have g4 := rv'.length
      have hu2 : A.in1.units + min (D.deps ds) (D.deps es) < cLine := by
        have : min (D.dep (.lst ds)) (D.dep (.lst es)) = min (D.deps ds) (D.deps es) + 1 := by simp only [D.dep]; omega
        show A.units + 1 + _ < cLine
        omega
      have he : ∀ j (j1 : j < its.toArray.size) (j2 : j < its'.toArray.size), EqAt A.in1 s its.toArray[j] its'.toArray[j] (atEq ds es j) := fun j j1 j2 => eqAts_rel I ds es A.in1 xh xk its its' h2 k2 rv rv' n1 n2 hu2 j (by simpa using j1) (by simpa using j2)
      show RcAt A s (.ref ah) (.ref ak) (D.eqvs ds es)
      by_cases hl : ds.length = es.length
      · rw [eqvs_same hl]
        have z : ds.length = its.toArray.size := by rw [List.size_toArray]; omega
        rw [z]
        exact .lists p.isList p'.isList (by rw [List.size_toArray, List.size_toArray]; omega) hu' he
      · rw [eqvs_unlike hl]
        refine .lists_lengths p.isList p'.isList ?_ hu'
        have : its.toArray.size ≠ its'.toArray.size := by rw [List.size_toArray, List.size_toArray]; omega
        simpa using this
    | tup es =>
      cases k with
      | @tup ak xk _ k1 k2 =>
      cases q
      obtain ⟨its', rv', p', _⟩ := I.tuple k1
      exact .list_tuple p.isList p' hu'
    | dic => cases n2
    | scr => cases n2
    | exv => cases n2
  | tup ds =>
    cases h with
    | @tup ah xh _ h1 h2 =>
    cases r
    obtain ⟨its, rv, p, _⟩ := I.tuple h1
    cases e with
    | non  =>
      cases k
      cases q
      exact .tuple_none  p hu'
    | bl bb =>
      cases k
      cases q
      exact .tuple_bool _ p hu'
    | int ib =>
      cases k
      obtain ⟨tb, rfl⟩ := q
      exact .tuple_int _ tb p hu'
    | str zb =>
      cases k
      obtain ⟨tb, rfl⟩ := q
      exact .tuple_str _ tb p hu'
    | lst es =>
      cases k with
      | @lst ak xk _ k1 k2 =>
      cases q
      obtain ⟨its', rv', p', _⟩ := I.list (lq k1)
      exact .tuple_list p p'.isList hu'
    | tup es =>
      cases k with
      | @tup ak xk _ k1 k2 =>
      cases q
      obtain ⟨its', rv', p', _⟩ := I.tuple k1
      have g1 := h2.length
      have g2 := k2.length
      have g3 := rv.length
      have g4 := rv'.length
      have hu2 : A.in1.units + min (D.deps ds) (D.deps es) < cLine := by
        have : min (D.dep (.tup ds)) (D.dep (.tup es)) = min (D.deps ds) (D.deps es) + 1 := by simp only [D.dep]; omega
        show A.units + 1 + _ < cLine
        omega
      have he : ∀ j (j1 : j < its.toArray.size) (j2 : j < its'.toArray.size), EqAt A.in1 s its.toArray[j] its'.toArray[j] (atEq ds es j) := fun j j1 j2 => eqAts_rel I ds es A.in1 xh xk its its' h2 k2 rv rv' n1 n2 hu2 j (by simpa using j1) (by simpa using j2)
      show RcAt A s (.ref ah) (.ref ak) (D.eqvs ds es)
      rw [eqvs_all]
      have z : ds.length = its.toArray.size := by rw [List.size_toArray]; omega
      have z' : es.length = its'.toArray.size := by rw [List.size_toArray]; omega
      rw [z, z']
      exact .tuples p p' hu' he
    | dic => cases n2
    | scr => cases n2
    | exv => cases n2
  | dic => cases n1
  | scr => cases n1
  | exv => cases n1
theorem rcNe_rel (I : Inv X pins σ H s) (d e : D) (A : Around) (x y : V) (v u : Value) (h : RelD X.K H x d) (k : RelD X.K H y e) (r : RelV x v) (q : RelV y u) (n1 : D.nod d = true) (n2 : D.nod e = true) (hu : A.units + min (D.dep d) (D.dep e) < cLine) : RcNeAt A s v u (!D.eqv d e) := by
  have hu' : A.units < cLine := by omega
  cases d with
  | non  =>
    cases h
    cases r
    cases e with
    | non  =>
      cases k
      cases q
      exact .none_none 
    | bl bb =>
      cases k
      cases q
      exact .none_bool _
    | int ib =>
      cases k
      obtain ⟨tb, rfl⟩ := q
      exact .none_int _ tb
    | str zb =>
      cases k
      obtain ⟨tb, rfl⟩ := q
      exact .none_str _ tb
    | lst es =>
      cases k with
      | @lst ak xk _ k1 k2 =>
      cases q
      obtain ⟨its', rv', p', _⟩ := I.list (lq k1)
      exact .none_list p'.isList hu'
    | tup es =>
      cases k with
      | @tup ak xk _ k1 k2 =>
      cases q
      obtain ⟨its', rv', p', _⟩ := I.tuple k1
      exact .none_tuple p' hu'
    | dic => cases n2
    | scr => cases n2
    | exv => cases n2
  | bl ba =>
    cases h
    cases r
    cases e with
    | non  =>
      cases k
      cases q
      exact .bool_none _ 
    | bl bb =>
      cases k
      cases q
      exact .bool_bool _ _
    | int ib =>
      cases k
      obtain ⟨tb, rfl⟩ := q
      exact .bool_int _ _ tb
    | str zb =>
      cases k
      obtain ⟨tb, rfl⟩ := q
      exact .bool_str _ _ tb
    | lst es =>
      cases k with
      | @lst ak xk _ k1 k2 =>
      cases q
      obtain ⟨its', rv', p', _⟩ := I.list (lq k1)
      exact .bool_list _ p'.isList hu'
    | tup es =>
      cases k with
      | @tup ak xk _ k1 k2 =>
      cases q
      obtain ⟨its', rv', p', _⟩ := I.tuple k1
      exact .bool_tuple _ p' hu'
    | dic => cases n2
    | scr => cases n2
    | exv => cases n2
  | int ia =>
    cases h
    obtain ⟨ta, rfl⟩ := r
    cases e with
    | non  =>
      cases k
      cases q
      exact .int_none _ ta 
    | bl bb =>
      cases k
      cases q
      exact .int_bool _ ta _
    | int ib =>
      cases k
      obtain ⟨tb, rfl⟩ := q
      exact .int_int _ ta _ tb
    | str zb =>
      cases k
      obtain ⟨tb, rfl⟩ := q
      exact .int_str _ ta _ tb
    | lst es =>
      cases k with
      | @lst ak xk _ k1 k2 =>
      cases q
      obtain ⟨its', rv', p', _⟩ := I.list (lq k1)
      exact .int_list _ ta p'.isList hu'
    | tup es =>
      cases k with
      | @tup ak xk _ k1 k2 =>
      cases q
      obtain ⟨its', rv', p', _⟩ := I.tuple k1
      exact .int_tuple _ ta p' hu'
    | dic => cases n2
    | scr => cases n2
    | exv => cases n2
  | str za =>
    cases h
    obtain ⟨ta, rfl⟩ := r
    cases e with
    | non  =>
      cases k
      cases q
      exact .str_none _ ta 
    | bl bb =>
      cases k
      cases q
      exact .str_bool _ ta _
    | int ib =>
      cases k
      obtain ⟨tb, rfl⟩ := q
      exact .str_int _ ta _ tb
    | str zb =>
      cases k
      obtain ⟨tb, rfl⟩ := q
      exact .str_str _ ta _ tb
    | lst es =>
      cases k with
      | @lst ak xk _ k1 k2 =>
      cases q
      obtain ⟨its', rv', p', _⟩ := I.list (lq k1)
      exact .str_list _ ta p'.isList hu'
    | tup es =>
      cases k with
      | @tup ak xk _ k1 k2 =>
      cases q
      obtain ⟨its', rv', p', _⟩ := I.tuple k1
      exact .str_tuple _ ta p' hu'
    | dic => cases n2
    | scr => cases n2
    | exv => cases n2
  | lst ds =>
    cases h with
    | @lst ah xh _ h1 h2 =>
    cases r
    obtain ⟨its, rv, p, _⟩ := I.list (lq h1)
    cases e with
    | non  =>
      cases k
      cases q
      exact .list_none  p.isList hu'
    | bl bb =>
      cases k
      cases q
      exact .list_bool _ p.isList hu'
    | int ib =>
      cases k
      obtain ⟨tb, rfl⟩ := q
      exact .list_int _ tb p.isList hu'
    | str zb =>
      cases k
      obtain ⟨tb, rfl⟩ := q
      exact .list_str _ tb p.isList hu'
    | lst es =>
      cases k with
      | @lst ak xk _ k1 k2 =>
      cases q
      obtain ⟨its', rv', p', _⟩ := I.list (lq k1)
      have g1 := h2.length
      have g2 := k2.length
      have g3 := rv.length
      have g4 := rv'.length
      have hu2 : A.in1.units + min (D.deps ds) (D.deps es) < cLine := by
        have : min (D.dep (.lst ds)) (D.dep (.lst es)) = min (D.deps ds) (D.deps es) + 1 := by simp only [D.dep]; omega
        show A.units + 1 + _ < cLine
        omega
      have he : ∀ j (j1 : j < its.toArray.size) (j2 : j < its'.toArray.size), EqAt A.in1 s its.toArray[j] its'.toArray[j] (atEq ds es j) := fun j j1 j2 => eqAts_rel I ds es A.in1 xh xk its its' h2 k2 rv rv' n1 n2 hu2 j (by simpa using j1) (by simpa using j2)
      show RcNeAt A s (.ref ah) (.ref ak) (!D.eqvs ds es)
      by_cases hl : ds.length = es.length
      · rw [eqvs_same hl]
        have z : ds.length = its.toArray.size := by rw [List.size_toArray]; omega
        rw [z]
        exact .lists p.isList p'.isList (by rw [List.size_toArray, List.size_toArray]; omega) hu' he
      · rw [eqvs_unlike hl]
        refine .lists_lengths p.isList p'.isList ?_ hu'
        have : its.toArray.size ≠ its'.toArray.size := by rw [List.size_toArray, List.size_toArray]; omega
        simpa using this
    | tup es =>
      cases k with
      | @tup ak xk _ k1 k2 =>
      cases q
      obtain ⟨its', rv', p', _⟩ := I.tuple k1
      exact .list_tuple p.isList p' hu'
    | dic => cases n2
    | scr => cases n2
    | exv => cases n2
  | tup ds =>
    cases h with
    | @tup ah xh _ h1 h2 =>
    cases r
    obtain ⟨its, rv, p, _⟩ := I.tuple h1
    cases e with
    | non  =>
      cases k
      cases q
      exact .tuple_none  p hu'
    | bl bb =>
      cases k
      cases q
      exact .tuple_bool _ p hu'
    | int ib =>
      cases k
      obtain ⟨tb, rfl⟩ := q
      exact .tuple_int _ tb p hu'
    | str zb =>
      cases k
      obtain ⟨tb, rfl⟩ := q
      exact .tuple_str _ tb p hu'
    | lst es =>
      cases k with
      | @lst ak xk _ k1 k2 =>
      cases q
      obtain ⟨its', rv', p', _⟩ := I.list (lq k1)
      exact .tuple_list p p'.isList hu'
    | tup es =>
      cases k with
      | @tup ak xk _ k1 k2 =>
      cases q
      obtain ⟨its', rv', p', _⟩ := I.tuple k1
      have g1 := h2.length
      have g2 := k2.length
      have g3 := rv.length
      have g4 := rv'.length
      have hu2 : A.in1.units + min (D.deps ds) (D.deps es) < cLine := by
        have : min (D.dep (.tup ds)) (D.dep (.tup es)) = min (D.deps ds) (D.deps es) + 1 := by simp only [D.dep]; omega
        show A.units + 1 + _ < cLine
        omega
      have he : ∀ j (j1 : j < its.toArray.size) (j2 : j < its'.toArray.size), EqAt A.in1 s its.toArray[j] its'.toArray[j] (atEq ds es j) := fun j j1 j2 => eqAts_rel I ds es A.in1 xh xk its its' h2 k2 rv rv' n1 n2 hu2 j (by simpa using j1) (by simpa using j2)
      show RcNeAt A s (.ref ah) (.ref ak) (!D.eqvs ds es)
      rw [eqvs_all]
      have z : ds.length = its.toArray.size := by rw [List.size_toArray]; omega
      have z' : es.length = its'.toArray.size := by rw [List.size_toArray]; omega
      rw [z, z']
      exact .tuples p p' hu' he
    | dic => cases n2
    | scr => cases n2
    | exv => cases n2
  | dic => cases n1
  | scr => cases n1
  | exv => cases n1

def rC2_of {f : D → D → Option Bool} {Q : VK} {Hd : Hp} {io : List Addr} {st : Store} {x y : V} {dx dy : D} {b : Bool} (l : Rl X.K Hd io st H) (px : PkD X.K Hd H x dx) (py : PkD X.K Hd H y dy) (e : f dx dy = some b) (q : Q (.bl b) H) : rC2 X.K f x y H Q :=
  ⟨Hd, io, st, dx, dy, b, l, px, py, e, q⟩
theorem lenNe_ok {Hd : Hp} {io : List Addr} {st : Store} (I : Inv X pins σ H s) (l : Rl X.K Hd io st H) {dx dy : D} {x y : V} {v u : Value} (px : PkD X.K Hd H x dx) (py : PkD X.K Hd H y dy) (rx : RelV x v) (ry : RelV y u) (h : lenNe dx dy = true) :
    ∃ (a b : Addr) (its its' : Array Value), v = .ref a ∧ u = .ref b ∧ s.heap.IsList a its ∧ s.heap.IsList b its' ∧ (its.size != its'.size) = true := by
  match dx, dy, h with
  | .lst ds, .lst es, h =>
    obtain ⟨a, vs, rfl, h1, h2⟩ := px.list l.sub
    obtain ⟨b, us, rfl, k1, k2⟩ := py.list l.sub
    cases rx
    cases ry
    obtain ⟨its, rv, p, _⟩ := I.list (lq (K := X.K) h1)
    obtain ⟨its', rv', p', _⟩ := I.list (lq (K := X.K) k1)
    have g1 := h2.length
    have g2 := k2.length
    have g3 := rv.length
    have g4 := rv'.length
    have hne : ds.length ≠ es.length := by
      have : (ds.length != es.length) = true := h
      simpa using this
    refine ⟨a, b, its.toArray, its'.toArray, rfl, rfl, p.isList, p'.isList, ?_⟩
    have : its.toArray.size ≠ its'.toArray.size := by rw [List.size_toArray, List.size_toArray]; omega
    simpa using this
theorem op_eq2 (hu : X.A.units + 64 < cLine) : OpR X (compareOp .Eq) (rC2 X.K (cmpD .Eq)) := by
  intro pins s σ H x y v u Q I rx ry h
  obtain ⟨Hd, io, st, dx, dy, b, l, px, py, e, q⟩ := h
  have e' : (if lenNe dx dy = true then some false else if shallow dx dy = true then some (D.eqv dx dy) else none) = some b := e
  by_cases hL : lenNe dx dy = true
  · rw [if_pos hL] at e'
    cases e'
    obtain ⟨pa, pb, its, its', rfl, rfl, p, p', hz⟩ := lenNe_ok I l px py rx ry hL
    exact RcAt.lists_lengths p p' hz (by omega) X.prog X.w X.xe _ ⟨.bl _, H, I, rfl, q⟩
  rw [if_neg hL] at e'
  by_cases hs : shallow dx dy = true
  · rw [if_pos hs] at e'
    cases e'
    have h1 := Bool.and_eq_true_iff.mp hs
    have h2 := Bool.and_eq_true_iff.mp h1.1
    have h3 : min (D.dep dx) (D.dep dy) ≤ 60 := of_decide_eq_true h1.2
    exact rcAt_rel I dx dy X.A x y v u (px.rel l.sub) (py.rel l.sub) rx ry h2.1 h2.2 (by omega) X.prog X.w X.xe _ ⟨.bl _, H, I, rfl, q⟩
  · rw [if_neg hs] at e'; cases e'
theorem op_ne2 (hu : X.A.units + 64 < cLine) : OpR X (compareOp .NotEq) (rC2 X.K (cmpD .NotEq)) := by
  intro pins s σ H x y v u Q I rx ry h
  obtain ⟨Hd, io, st, dx, dy, b, l, px, py, e, q⟩ := h
  have e' : (if lenNe dx dy = true then some false else if shallow dx dy = true then some (D.eqv dx dy) else none).map (!·) = some b := e
  by_cases hL : lenNe dx dy = true
  · rw [if_pos hL] at e'
    cases e'
    obtain ⟨pa, pb, its, its', rfl, rfl, p, p', hz⟩ := lenNe_ok I l px py rx ry hL
    exact RcNeAt.lists_lengths p p' hz (by omega) X.prog X.w X.xe _ ⟨.bl _, H, I, rfl, q⟩
  rw [if_neg hL] at e'
  by_cases hs : shallow dx dy = true
  · rw [if_pos hs] at e'
    cases e'
    have h1 := Bool.and_eq_true_iff.mp hs
    have h2 := Bool.and_eq_true_iff.mp h1.1
    have h3 : min (D.dep dx) (D.dep dy) ≤ 60 := of_decide_eq_true h1.2
    exact rcNe_rel I dx dy X.A x y v u (px.rel l.sub) (py.rel l.sub) rx ry h2.1 h2.2 (by omega) X.prog X.w X.xe _ ⟨.bl _, H, I, rfl, q⟩
  · rw [if_neg hs] at e'; cases e'
end
end Ev
set_option Elab.async false
set_option linter.all false
set_option maxRecDepth 100000
set_option maxHeartbeats 4000000
namespace Ev
open PySem PySem.Spec PyProof.Rows L2
open PySem.SeqAt
section
variable {X : Cx} {pins : List (Addr × Obj)} {σ : L2.St} {H : Hp} {s : Shared}
theorem PkD.isNon {K : PySem.W.Frag} {Hd H : Hp} {v : V} {d : D} (h : PkD K Hd H v d) : decide (v = .non) = D.isNon d := by
  rcases h with h | ⟨a, vs, ds, rfl, rfl, _⟩
  · cases h <;> simp [D.isNon]
  · simp [D.isNon]
theorem op_is2 : OpR X (compareOp .Is) (rC2 X.K (cmpD .Is)) := by
  intro pins s σ H x y v u Q I rx ry h
  obtain ⟨Hd, io, st, dx, dy, b, l, px, py, e, q⟩ := h
  have e' : isD dx dy = some b := e
  cases dy with
  | non =>
    have e2 : some (D.isNon dx) = some b := by cases dx <;> exact e'
    cases e2
    rw [py.non] at ry
    exact op_isN pins s σ H _ _ v u Q I rx ry ⟨rfl, by rw [px.isNon]; exact q⟩
  | bl c =>
    cases dx with
    | bl a =>
      cases e'
      rw [px.bl] at rx; rw [py.bl] at ry
      exact op_isBl pins s σ H _ _ v u Q I rx ry ⟨a, c, rfl, rfl, q⟩
    | _ => cases e'
  | _ => cases dx <;> cases e'
theorem op_isnot2 : OpR X (compareOp .IsNot) (rC2 X.K (cmpD .IsNot)) := by
  intro pins s σ H x y v u Q I rx ry h
  obtain ⟨Hd, io, st, dx, dy, b, l, px, py, e, q⟩ := h
  have e' : (isD dx dy).map (!·) = some b := e
  cases dy with
  | non =>
    have e2 : some (!D.isNon dx) = some b := by cases dx <;> exact e'
    cases e2
    rw [py.non] at ry
    exact op_notN pins s σ H _ _ v u Q I rx ry ⟨rfl, by rw [px.isNon]; exact q⟩
  | bl c =>
    cases dx with
    | bl a =>
      cases e'
      rw [px.bl] at rx; rw [py.bl] at ry
      exact op_notBl pins s σ H _ _ v u Q I rx ry ⟨a, c, rfl, rfl, q⟩
    | _ => cases e'
  | _ => cases dx <;> cases e'
theorem op_lt2 (hu : X.A.units + 64 < cLine) : OpR X (compareOp .Lt) (rC2 X.K (cmpD .Lt)) := by
  intro pins s σ H x y v u Q I rx ry h
  obtain ⟨Hd, io, st, dx, dy, b, l, px, py, e, q⟩ := h
  cases dx <;> cases dy <;> try (cases e; done)
  case tup.tup a b =>
    obtain ⟨n1, n2, al, dp, _, rfl⟩ := ordD_ok (f := PySem.W.dataLt) (d := .tup a) (e := .tup b) e
    obtain ⟨as, r1⟩ := RelD.reads I _ _ _ n1 (px.rel l.sub) rx
    obtain ⟨bs, r2⟩ := RelD.reads I _ _ _ n2 (py.rel l.sub) ry
    exact PySem.W.lt_data r1 r2 al (fun z => by cases z) (by omega) ⟨.bl _, H, I, rfl, q⟩
  case int.int i j =>
    cases e
    rw [px.int] at rx; rw [py.int] at ry
    exact op_lt pins s σ H _ _ v u Q I rx ry ⟨i, j, rfl, rfl, q⟩
  case str.str i j =>
    cases e
    rw [px.str] at rx; rw [py.str] at ry
    exact op_lt_str pins s σ H _ _ v u Q I rx ry ⟨i, j, rfl, rfl, q⟩
theorem op_gt2 (hu : X.A.units + 64 < cLine) : OpR X (compareOp .Gt) (rC2 X.K (cmpD .Gt)) := by
  intro pins s σ H x y v u Q I rx ry h
  obtain ⟨Hd, io, st, dx, dy, b, l, px, py, e, q⟩ := h
  cases dx <;> cases dy <;> try (cases e; done)
  case tup.tup a b =>
    obtain ⟨n1, n2, al, dp, _, rfl⟩ := ordD_ok (f := fun x y => PySem.W.dataLt y x) (d := .tup a) (e := .tup b) e
    obtain ⟨as, r1⟩ := RelD.reads I _ _ _ n1 (px.rel l.sub) rx
    obtain ⟨bs, r2⟩ := RelD.reads I _ _ _ n2 (py.rel l.sub) ry
    exact PySem.W.gt_data r1 r2 al (fun z => by cases z) (by omega) ⟨.bl _, H, I, rfl, q⟩
  case int.int i j =>
    cases e
    rw [px.int] at rx; rw [py.int] at ry
    exact op_gt pins s σ H _ _ v u Q I rx ry ⟨i, j, rfl, rfl, q⟩
  case str.str i j =>
    cases e
    rw [px.str] at rx; rw [py.str] at ry
    exact op_gt_str pins s σ H _ _ v u Q I rx ry ⟨i, j, rfl, rfl, q⟩
theorem op_le2 (hu : X.A.units + 64 < cLine) : OpR X (compareOp .LtE) (rC2 X.K (cmpD .LtE)) := by
  intro pins s σ H x y v u Q I rx ry h
  obtain ⟨Hd, io, st, dx, dy, b, l, px, py, e, q⟩ := h
  cases dx <;> cases dy <;> try (cases e; done)
  case tup.tup a b =>
    obtain ⟨n1, n2, al, dp, _, rfl⟩ := ordD_ok (f := fun x y => !PySem.W.dataLt y x) (d := .tup a) (e := .tup b) e
    obtain ⟨as, r1⟩ := RelD.reads I _ _ _ n1 (px.rel l.sub) rx
    obtain ⟨bs, r2⟩ := RelD.reads I _ _ _ n2 (py.rel l.sub) ry
    exact PySem.W.le_data r1 r2 al (fun z => by cases z) (by omega) ⟨.bl _, H, I, rfl, q⟩
  case int.int i j =>
    cases e
    rw [px.int] at rx; rw [py.int] at ry
    exact op_le pins s σ H _ _ v u Q I rx ry ⟨i, j, rfl, rfl, q⟩
  case str.str i j =>
    cases e
    rw [px.str] at rx; rw [py.str] at ry
    exact op_le_str pins s σ H _ _ v u Q I rx ry ⟨i, j, rfl, rfl, q⟩
theorem op_ge2 (hu : X.A.units + 64 < cLine) : OpR X (compareOp .GtE) (rC2 X.K (cmpD .GtE)) := by
  intro pins s σ H x y v u Q I rx ry h
  obtain ⟨Hd, io, st, dx, dy, b, l, px, py, e, q⟩ := h
  cases dx <;> cases dy <;> try (cases e; done)
  case tup.tup a b =>
    obtain ⟨n1, n2, al, dp, _, rfl⟩ := ordD_ok (f := fun x y => !PySem.W.dataLt x y) (d := .tup a) (e := .tup b) e
    obtain ⟨as, r1⟩ := RelD.reads I _ _ _ n1 (px.rel l.sub) rx
    obtain ⟨bs, r2⟩ := RelD.reads I _ _ _ n2 (py.rel l.sub) ry
    exact PySem.W.ge_data r1 r2 al (fun z => by cases z) (by omega) ⟨.bl _, H, I, rfl, q⟩
  case int.int i j =>
    cases e
    rw [px.int] at rx; rw [py.int] at ry
    exact op_ge pins s σ H _ _ v u Q I rx ry ⟨i, j, rfl, rfl, q⟩
  case str.str i j =>
    cases e
    rw [px.str] at rx; rw [py.str] at ry
    exact op_ge_str pins s σ H _ _ v u Q I rx ry ⟨i, j, rfl, rfl, q⟩
/-! ### x in a list, a tuple -/
open Classical in
noncomputable def inE (K : PySem.W.Frag) (H : Hp) (d : D) (y : Value) : Bool := decide (∃ v e, RelV v y ∧ RelD K H v e ∧ D.nod e = true ∧ D.eqv e d = true)
open Classical in
theorem inE_eq (I : Inv X pins σ H s) {d e : D} {v : V} {y : Value} (r : RelV v y) (h : RelD X.K H v e) (n : D.nod e = true) : inE X.K H d y = D.eqv e d := by
  unfold inE
  cases hb : D.eqv e d with
  | true => exact decide_eq_true ⟨v, e, r, h, n, hb⟩
  | false =>
    refine decide_eq_false fun ⟨v', e', r', h', n', hb'⟩ => ?_
    have : v' = v := r'.inj r
    subst this
    have : e' = e := RelD.uniq I e' e v' n' n h' h
    subst this
    rw [hb] at hb'; cases hb'
theorem inE_any (I : Inv X pins σ H s) (d : D) : ∀ (ds : List D) (vs : List V) (us : List Value), RelDs X.K H vs ds → Vals vs us → D.nods ds = true → us.any (inE X.K H d) = ds.any fun y => D.eqv y d
  | [], _, _, h, r, _ => by cases h; cases r; rfl
  | e :: ds, _, _, h, r, n => by
    have m := Bool.and_eq_true_iff.mp n
    cases h with
    | cons h1 h2 =>
      cases r with
      | cons r1 r2 => rw [List.any_cons, List.any_cons, inE_eq I r1 h1 m.1, inE_any I d ds _ _ h2 r2 m.2]
theorem inE_at (I : Inv X pins σ H s) {A : Around} {d : D} {x : V} {v : Value} (hx : RelD X.K H x d) (rx : RelV x v) (n : D.nod d = true) : ∀ (ds : List D) (vs : List V) (us : List Value), RelDs X.K H vs ds → Vals vs us → D.nods ds = true → A.units + min (D.deps ds) (D.dep d) < cLine →
    ∀ y, y ∈ us → EqAt A s y v (inE X.K H d y)
  | [], _, _, h, r, _, _, y, hy => by cases h; cases r; cases hy
  | e :: ds, _, _, h, r, m0, hu, y, hy => by
    have m := Bool.and_eq_true_iff.mp m0
    have b1 : D.dep e ≤ D.deps (e :: ds) := Nat.le_max_left _ _
    have b3 : D.deps ds ≤ D.deps (e :: ds) := Nat.le_max_right _ _
    cases h with
    | cons h1 h2 =>
      cases r with
      | cons r1 r2 =>
        rcases List.mem_cons.mp hy with z | z
        · subst z
          rw [inE_eq I r1 h1 m.1]
          exact eqAt_rel I e d A _ _ _ _ h1 hx r1 rx m.1 n (by omega)
        · exact inE_at I hx rx n ds _ _ h2 r2 m.2 (by omega) y z
theorem in_seq (hu : X.A.units + 65 < cLine) {neg : Bool} {x y : V} {v u : Value} {Q : VK} {Hd : Hp} {d : D} {ds : List D} {b : Bool} (I : Inv X pins σ H s) (le : Le Hd H) (px : PkD X.K Hd H x d) (py : PkD X.K Hd H y (.lst ds) ∨ PkD X.K Hd H y (.tup ds)) (rx : RelV x v) (ry : RelV y u)
    (e : inList d ds = some b) (q : Q (.bl (neg ^^ b)) H) : wpAny (model X.prog X.w) X.A (compareOp (if neg then .NotIn else .In) v u) (EP X pins σ Q) X.xe s := by
  have e' : (if (D.nod d && D.nods ds && decide (min (D.deps ds) (D.dep d) ≤ 60)) = true then some (ds.any fun y => D.eqv y d) else none) = some b := e
  by_cases hs : (D.nod d && D.nods ds && decide (min (D.deps ds) (D.dep d) ≤ 60)) = true
  · rw [if_pos hs] at e'
    cases e'
    have h1 := Bool.and_eq_true_iff.mp hs
    have h2 := Bool.and_eq_true_iff.mp h1.1
    have h3 : min (D.deps ds) (D.dep d) ≤ 60 := of_decide_eq_true h1.2
    have hx := px.rel le
    have hu3 : X.A.in1.units + min (D.deps ds) (D.dep d) < cLine := by
      show X.A.units + 1 + _ < cLine
      omega
    rcases py with py | py
    · obtain ⟨p, vs, rfl, hp, r⟩ := py.list le
      cases ry
      obtain ⟨its, rv, pl, _⟩ := I.list (lq hp)
      have ha := inE_any I d ds vs its (r.mono le) rv h2.2
      have at' := inE_at I (A := X.A.in1) hx rx h2.1 ds vs its (r.mono le) rv h2.2 hu3
      cases neg with
      | true => exact notIn_listAt (inE X.K H d) pl.isList (fun y hy => at' y (by simpa using hy)) ⟨.bl _, H, I, rfl, by rw [List.any_toArray, ha]; simpa using q⟩
      | false => exact in_listAt (inE X.K H d) pl.isList (fun y hy => at' y (by simpa using hy)) ⟨.bl _, H, I, rfl, by rw [List.any_toArray, ha]; simpa using q⟩
    · obtain ⟨p, vs, rfl, hp, r⟩ := py.tuple le
      cases ry
      obtain ⟨its, rv, pl, _⟩ := I.tuple hp
      have ha := inE_any I d ds vs its (r.mono le) rv h2.2
      have at' := inE_at I (A := X.A.in1) hx rx h2.1 ds vs its (r.mono le) rv h2.2 hu3
      cases neg with
      | true => exact notIn_tupleAt (inE X.K H d) pl (fun y hy => at' y (by simpa using hy)) ⟨.bl _, H, I, rfl, by rw [List.any_toArray, ha]; simpa using q⟩
      | false => exact in_tupleAt (inE X.K H d) pl (fun y hy => at' y (by simpa using hy)) ⟨.bl _, H, I, rfl, by rw [List.any_toArray, ha]; simpa using q⟩
  · rw [if_neg hs] at e'; cases e'
theorem op_in2 (hu : X.A.units + 65 < cLine) : OpR X (compareOp .In) (rC2 X.K (cmpD .In)) := by
  intro pins s σ H x y v u Q I rx ry h
  obtain ⟨Hd, io, st, dx, dy, b, l, px, py, e, q⟩ := h
  have e' : inD dx dy = some b := e
  cases dy with
  | lst ds =>
    have e2 : inList dx ds = some b := by cases dx <;> exact e'
    exact in_seq (neg := false) hu I l.sub px (.inl py) rx ry e2 (by simpa using q)
  | tup ds =>
    have e2 : inList dx ds = some b := by cases dx <;> exact e'
    exact in_seq (neg := false) hu I l.sub px (.inr py) rx ry e2 (by simpa using q)
  | str z =>
    cases dx with
    | str a =>
      cases e'
      rw [px.str] at rx; rw [py.str] at ry
      exact op_in_str pins s σ H _ _ v u Q I rx ry ⟨a, z, rfl, rfl, q⟩
    | _ => cases e'
  | _ => cases dx <;> cases e'
theorem op_notin2 (hu : X.A.units + 65 < cLine) : OpR X (compareOp .NotIn) (rC2 X.K (cmpD .NotIn)) := by
  intro pins s σ H x y v u Q I rx ry h
  obtain ⟨Hd, io, st, dx, dy, b, l, px, py, e, q⟩ := h
  have e' : (inD dx dy).map (!·) = some b := e
  have red : ∀ {o : Option Bool}, o.map (!·) = some b → ∃ c, o = some c ∧ b = !c := fun {o} h => by
    cases o with
    | none => cases h
    | some c => cases h; exact ⟨c, rfl, rfl⟩
  cases dy with
  | lst ds =>
    have e2 : (inList dx ds).map (!·) = some b := by cases dx <;> exact e'
    obtain ⟨c, e3, rfl⟩ := red e2
    exact in_seq (neg := true) hu I l.sub px (.inl py) rx ry e3 (by simpa using q)
  | tup ds =>
    have e2 : (inList dx ds).map (!·) = some b := by cases dx <;> exact e'
    obtain ⟨c, e3, rfl⟩ := red e2
    exact in_seq (neg := true) hu I l.sub px (.inr py) rx ry e3 (by simpa using q)
  | str z =>
    cases dx with
    | str a =>
      cases e'
      rw [px.str] at rx; rw [py.str] at ry
      exact op_notin_str pins s σ H _ _ v u Q I rx ry ⟨a, z, rfl, rfl, q⟩
    | _ => cases e'
  | _ => cases dx <;> cases e'
theorem op_cmp (hu : X.A.units + 65 < cLine) (op : CmpOp) : OpR X (compareOp op) (rC2 X.K (cmpD op)) := by
  cases op
  case Eq => exact op_eq2 (by omega)
  case NotEq => exact op_ne2 (by omega)
  case Lt => exact op_lt2 (by omega)
  case LtE => exact op_le2 (by omega)
  case Gt => exact op_gt2 (by omega)
  case GtE => exact op_ge2 (by omega)
  case Is => exact op_is2
  case IsNot => exact op_isnot2
  case In => exact op_in2 hu
  case NotIn => exact op_notin2 hu
end
end Ev
set_option Elab.async false
set_option linter.all false
set_option maxRecDepth 100000
set_option maxHeartbeats 4000000
namespace Ev
open PySem PySem.Spec PyProof.Rows L2
open PySem.SeqAt
/-! ### a[i] -/
def ixD : D → D → Option D
  | .lst ds, .int i => atI ds i
  | .tup ds, .int i => atI ds i
  | .scr ns, .int i => (atI ns i).map .int
  | .str z, .int i => if z.length ≤ sizeLine then (atI z.cps.toList i).map fun c => .str ⟨#[c]⟩ else none
  | _, _ => none
theorem RelDs.atI {K : PySem.W.Frag} {H : Hp} {vs : List V} {ds : List D} (r : RelDs K H vs ds) {i : Int} {d : D} (h : atI ds i = some d) : ∃ v, atI vs i = some v ∧ RelD K H v d := by
  unfold L2.atI at h ⊢
  rw [r.length]
  cases e : ixN ds.length i with
  | none => rw [e] at h; cases h
  | some j =>
    rw [e] at h
    obtain ⟨v, h1, h2⟩ := r.get' (show ds[j]? = some d from h)
    exact ⟨v, h1, h2⟩
theorem atI_map {α β : Type} (f : α → β) {xs : List α} {i : Int} {d : α} (h : atI xs i = some d) : atI (xs.map f) i = some (f d) := by
  unfold atI at h ⊢
  rw [List.length_map]
  cases e : ixN xs.length i with
  | none => rw [e] at h; cases h
  | some j =>
    rw [e] at h
    have h' : xs[j]? = some d := h
    show (xs.map f)[j]? = some (f d)
    rw [List.getElem?_map, h']
    rfl
section
variable {X : Cx}
theorem ix_D : IxR X (rD2 X.K ixD) := by
  intro value slice pins s σ H x y v u Q I rx ry h hs
  obtain ⟨Hd, io, st, dx, dy, dz, l, px, py, e, q⟩ := h
  cases dx <;> cases dy <;> try (cases e; done)
  case lst.int ds i =>
    rw [py.int] at ry
    obtain ⟨p, vs, rfl, hp, r⟩ := px.list l.sub
    obtain ⟨z, h1, h2⟩ := r.atI (show atI ds i = some dz from e)
    exact ix_list value slice pins s σ H _ _ v u Q I rx ry ⟨p, vs, i, z, rfl, rfl, lq hp, h1, q.here l h2⟩ hs
  case tup.int ds i =>
    rw [py.int] at ry
    obtain ⟨p, vs, rfl, hp, r⟩ := px.tuple l.sub
    obtain ⟨z, h1, h2⟩ := r.atI (show atI ds i = some dz from e)
    exact ix_tup value slice pins s σ H _ _ v u Q I rx ry ⟨p, vs, i, z, rfl, rfl, hp, h1, q.here l h2⟩ hs
  case scr.int ns i =>
    rw [py.int] at ry
    obtain ⟨p, rfl, hp⟩ := px.scr l.sub
    have e' : (atI ns i).map D.int = some dz := e
    cases e2 : atI ns i with
    | none => rw [e2] at e'; cases e'
    | some n =>
      rw [e2] at e'; cases e'
      exact ix_list value slice pins s σ H _ _ v u Q I rx ry ⟨p, _, i, _, rfl, rfl, hp, atI_map V.int e2, q.here l (.int _)⟩ hs
  case str.int z i =>
    rw [px.str] at rx; rw [py.int] at ry
    have e' : (if z.length ≤ sizeLine then (atI z.cps.toList i).map fun c => D.str ⟨#[c]⟩ else none) = some dz := e
    by_cases hz : z.length ≤ sizeLine
    · rw [if_pos hz] at e'
      cases e2 : atI z.cps.toList i with
      | none => rw [e2] at e'; cases e'
      | some c =>
        rw [e2] at e'; cases e'
        exact ix_str value slice pins s σ H _ _ v u Q I rx ry ⟨z, i, c, rfl, rfl, hz, e2, q.here l (.str _)⟩ hs
    · rw [if_neg hz] at e'; cases e'
end
/-! ### a[lo:hi] -/
def cutG {α : Type} (xs : List α) (lo hi : Option Int) : List α := (xs.drop (HT.sIx xs.length 0 lo)).take (HT.sIx xs.length xs.length hi - HT.sIx xs.length 0 lo)
def slD (x : D) (lo hi : Option Int) : Option D := match x with
  | .lst ds => some (.lst (cutG ds lo hi))
  | .tup ds => some (.tup (cutG ds lo hi))
  | .scr ns => some (.lst ((cutG ns lo hi).map .int))
  | .str z => if z.length ≤ sizeLine then some (.str (cutS z lo hi)) else none
  | _ => none
theorem RelDs.cut {K : PySem.W.Frag} {H : Hp} {vs : List V} {ds : List D} (r : RelDs K H vs ds) (lo hi : Option Int) : RelDs K H (cutV vs lo hi) (cutG ds lo hi) := by
  unfold cutV cutG
  rw [r.length]
  exact (r.drop _).take _
theorem RelDs.ints {K : PySem.W.Frag} {H : Hp} : ∀ ns : List Int, RelDs K H (ns.map V.int) (ns.map D.int)
  | [] => .nil
  | n :: ns => .cons (.int n) (RelDs.ints ns)
theorem RelDs.strs {K : PySem.W.Frag} {H : Hp} : ∀ ns : List Str, RelDs K H (ns.map V.str) (ns.map D.str)
  | [] => .nil
  | n :: ns => .cons (.str n) (RelDs.strs ns)
theorem cutG_map {α β : Type} (f : α → β) (xs : List α) (lo hi : Option Int) : cutG (xs.map f) lo hi = (cutG xs lo hi).map f := by
  unfold cutG
  rw [List.length_map, List.map_take, List.map_drop]
def rSlD (K : PySem.W.Frag) : V → Option Int → Option Int → Hp → VK → Prop := fun x lo hi H Q => ∃ Hd io st dx dz, Rl K Hd io st H ∧ PkD K Hd H x dx ∧ slD dx lo hi = some dz ∧ Post K Hd io H (RelW K) Q (.ok (.d dz) st)
theorem cut_whole {α : Type} {xs : List α} {lo hi : Option Int} (h : HT.sIx xs.length 0 lo = 0 ∧ HT.sIx xs.length xs.length hi = xs.length) : cutG xs lo hi = xs := by
  unfold cutG
  rw [h.1, h.2]
  simp
section
variable {X : Cx}
theorem sl_D : SlR X (rSlD X.K) := by
  intro pins s σ H x v vl vu lo hi sl Q I rx hs pl pu h
  obtain ⟨Hd, io, st, dx, dz, l, px, e, q⟩ := h
  cases dx <;> try (cases e; done)
  case lst ds =>
    cases e
    obtain ⟨p, vs, rfl, hp, r⟩ := px.list l.sub
    exact sl_list pins s σ H _ v vl vu lo hi sl Q I rx hs pl pu ⟨p, vs, rfl, lq hp, fun b hb => q.newLst l (r.cut lo hi) hb⟩
  case scr ns =>
    cases e
    obtain ⟨p, rfl, hp⟩ := px.scr l.sub
    refine sl_list pins s σ H _ v vl vu lo hi sl Q I rx hs pl pu ⟨p, _, rfl, hp, fun b hb => q.newLst l ?_ hb⟩
    show RelDs X.K Hd (cutG (ns.map V.int) lo hi) _
    rw [cutG_map]
    exact RelDs.ints _
  case tup ds =>
    cases e
    obtain ⟨p, vs, rfl, hp, r⟩ := px.tuple l.sub
    have w1 : RelD X.K Hd (.ref p) (.tup ds) := by
      rcases px with px | ⟨_, _, _, _, e, _⟩
      · exact px
      · cases e
    refine sl_tupA pins s σ H _ v vl vu lo hi sl Q I rx hs pl pu ⟨p, vs, rfl, hp, fun hw => ?_, fun _ b hb => q.newTup l (r.cut lo hi) hb⟩
    rw [r.length] at hw
    rw [cut_whole hw] at q
    exact q.here l w1
  case str z =>
    rw [px.str] at rx
    have e' : (if z.length ≤ sizeLine then some (D.str (cutS z lo hi)) else none) = some dz := e
    by_cases hz : z.length ≤ sizeLine
    · rw [if_pos hz] at e'
      cases e'
      exact sl_str pins s σ H _ v vl vu lo hi sl Q I rx hs pl pu ⟨z, rfl, hz, q.here l (.str _)⟩
    · rw [if_neg hz] at e'; cases e'
end
/-! ### isinstance -/
inductive Ty where
  | int | bool | str | tuple | list | dict
def Ty.name : Ty → String
  | .int => "int" | .bool => "bool" | .str => "str" | .tuple => "tuple" | .list => "list" | .dict => "dict"
def isiD : D → Ty → Option Bool
  | .non, _ => some false
  | .bl _, .int => some true
  | .bl _, .bool => some true
  | .bl _, _ => some false
  | .int _, .int => some true
  | .int _, _ => some false
  | .str _, .str => some true
  | .str _, _ => some false
  | .lst _, .list => some true
  | .lst _, _ => some false
  | .scr _, .list => some true
  | .scr _, _ => some false
  | .tup _, .tuple => some true
  | .tup _, _ => some false
  | .dic _ _, .dict => some true
  | .dic _ _, _ => some false
  | .exv _ _ _, _ => none
def tyOf : D → String
  | .non => "NoneType" | .bl _ => "bool" | .int _ => "int" | .str _ => "str" | .lst _ => "list" | .scr _ => "list" | .tup _ => "tuple" | .dic _ _ => "dict" | .exv _ _ _ => ""
theorem kit_D : ∀ (d : D) (t : Ty) (b : Bool), isiD d t = some b → kitB (tyOf d) t.name = some b := by
  intro d t b h
  cases d <;> cases t <;> first | (cases h; done) | (cases h; first | rfl | decide +kernel)
theorem ty_D {K : PySem.W.Frag} {Hd H : Hp} {v : V} {d : D} (nx : ∀ c ks xs, d ≠ .exv c ks xs) (le : Le Hd H) (h : PkD K Hd H v d) : TyX K H v (.type (tyOf d)) := by
  have h' := h.rel le
  cases h' with
  | non => exact .base .non
  | bl b => exact .base (.bl b)
  | int i => exact .base (.int i)
  | str z => exact .base (.str z)
  | lst e _ => exact .base (.lst e)
  | dic e _ _ => exact .base (.dK e)
  | scr e =>
    rcases e with (e | ⟨o, e⟩) | ⟨o, its, n, e, c, _⟩
    · exact .base (.lst e)
    · exact .base (.frz e)
    · exact .kList e c
  | tup e _ =>
    rcases e with (e | ⟨o, e⟩) | ⟨o, its, n, e, c, _⟩
    · exact .base (.tup e)
    · exact .fTuple e
    · exact .kTuple e c
  | exv0 => exact absurd rfl (nx _ _ _)
  | exv => exact absurd rfl (nx _ _ _)
def rIsiD (K : PySem.W.Frag) (t : Ty) : List V → Hp → VK → Prop := fun xs H Q => ∃ x Hd d b, xs = [x, .ty t.name] ∧ Le Hd H ∧ PkD K Hd H x d ∧ isiD d t = some b ∧ Q (.bl b) H
theorem call_isiD {X : Cx} (t : Ty) : CallR X (.builtin "isinstance") (rIsiD X.K t) := by
  intro pins s σ H xs us Q I r h
  obtain ⟨x, Hd, d, b, rfl, le, px, e, q⟩ := h
  exact call_isi pins s σ H _ us Q I r ⟨x, _, _, _, b, rfl, .ty _, ty_D (fun c ks xs z => by subst z; cases e) le px, kit_ty (kit_D d t b e), q⟩
end Ev
set_option Elab.async false
set_option linter.all false
set_option maxRecDepth 100000
set_option maxHeartbeats 4000000
namespace Ev
open PySem PySem.Spec PyProof.Rows L2
open PySem.SeqAt
abbrev PkDs (K : PySem.W.Frag) (Hd H : Hp) : List V → List D → Prop := Paired fun v d => PkD K Hd H v d
def rBiD (K : PySem.W.Frag) (f : List D → Option D) : List V → Hp → VK → Prop := fun vs H Q => ∃ Hd io st ds d, Rl K Hd io st H ∧ PkDs K Hd H vs ds ∧ f ds = some d ∧ Post K Hd io H (RelW K) Q (.ok (.d d) st)
section
variable {K : PySem.W.Frag} {Hd H : Hp}
theorem PkDs.one {vs : List V} {d : D} (h : PkDs K Hd H vs [d]) : ∃ v, vs = [v] ∧ PkD K Hd H v d := by
  cases h with
  | cons a b => cases b; exact ⟨_, rfl, a⟩
theorem PkDs.two {vs : List V} {d e : D} (h : PkDs K Hd H vs [d, e]) : ∃ v u, vs = [v, u] ∧ PkD K Hd H v d ∧ PkD K Hd H u e := by
  cases h with
  | cons a b =>
    obtain ⟨u, rfl, c⟩ := PkDs.one b
    exact ⟨_, u, rfl, a, c⟩
end
def boolsOf : List D → Option (List Bool)
  | [] => some []
  | .bl b :: r => (boolsOf r).map (b :: ·)
  | _ :: _ => none
def intsOf : List D → Option (List Int)
  | [] => some []
  | .int b :: r => (intsOf r).map (b :: ·)
  | _ :: _ => none
def strsOf : List D → Option (List Str)
  | [] => some []
  | .str b :: r => (strsOf r).map (b :: ·)
  | _ :: _ => none
theorem boolsOf_ok : ∀ {ds : List D} {bs : List Bool}, boolsOf ds = some bs → ds = bs.map D.bl
  | [], _, h => by cases h; rfl
  | .bl b :: r, bs, h => by
    have h' : (boolsOf r).map (b :: ·) = some bs := h
    cases e : boolsOf r with
    | none => rw [e] at h'; cases h'
    | some cs => rw [e] at h'; cases h'; rw [boolsOf_ok e]; rfl
  | .non :: _, _, h => by cases h
  | .int _ :: _, _, h => by cases h
  | .str _ :: _, _, h => by cases h
  | .lst _ :: _, _, h => by cases h
  | .tup _ :: _, _, h => by cases h
  | .dic _ _ :: _, _, h => by cases h
  | .scr _ :: _, _, h => by cases h
  | .exv _ _ _ :: _, _, h => by cases h
theorem intsOf_ok : ∀ {ds : List D} {bs : List Int}, intsOf ds = some bs → ds = bs.map D.int
  | [], _, h => by cases h; rfl
  | .int b :: r, bs, h => by
    have h' : (intsOf r).map (b :: ·) = some bs := h
    cases e : intsOf r with
    | none => rw [e] at h'; cases h'
    | some cs => rw [e] at h'; cases h'; rw [intsOf_ok e]; rfl
  | .non :: _, _, h => by cases h
  | .bl _ :: _, _, h => by cases h
  | .str _ :: _, _, h => by cases h
  | .lst _ :: _, _, h => by cases h
  | .tup _ :: _, _, h => by cases h
  | .dic _ _ :: _, _, h => by cases h
  | .scr _ :: _, _, h => by cases h
  | .exv _ _ _ :: _, _, h => by cases h
theorem strsOf_ok : ∀ {ds : List D} {bs : List Str}, strsOf ds = some bs → ds = bs.map D.str
  | [], _, h => by cases h; rfl
  | .str b :: r, bs, h => by
    have h' : (strsOf r).map (b :: ·) = some bs := h
    cases e : strsOf r with
    | none => rw [e] at h'; cases h'
    | some cs => rw [e] at h'; cases h'; rw [strsOf_ok e]; rfl
  | .non :: _, _, h => by cases h
  | .bl _ :: _, _, h => by cases h
  | .int _ :: _, _, h => by cases h
  | .lst _ :: _, _, h => by cases h
  | .tup _ :: _, _, h => by cases h
  | .dic _ _ :: _, _, h => by cases h
  | .scr _ :: _, _, h => by cases h
  | .exv _ _ _ :: _, _, h => by cases h
theorem RelDs.of_bools {K : PySem.W.Frag} {H : Hp} : ∀ {bs : List Bool} {vs : List V}, RelDs K H vs (bs.map D.bl) → vs = bs.map V.bl
  | [], _, h => by cases h; rfl
  | b :: bs, _, h => by
    cases h with
    | cons a r => cases a; rw [RelDs.of_bools r]; rfl
theorem RelDs.of_ints {K : PySem.W.Frag} {H : Hp} : ∀ {bs : List Int} {vs : List V}, RelDs K H vs (bs.map D.int) → vs = bs.map V.int
  | [], _, h => by cases h; rfl
  | b :: bs, _, h => by
    cases h with
    | cons a r => cases a; rw [RelDs.of_ints r]; rfl
theorem RelDs.of_strs {K : PySem.W.Frag} {H : Hp} : ∀ {bs : List Str} {vs : List V}, RelDs K H vs (bs.map D.str) → vs = bs.map V.str
  | [], _, h => by cases h; rfl
  | b :: bs, _, h => by
    cases h with
    | cons a r => cases a; rw [RelDs.of_strs r]; rfl
/-! ### repr -/
mutual
theorem py_noDict : ∀ d : D, d.py.hasDict = false
  | .non => rfl | .bl _ => rfl | .int _ => rfl | .str _ => rfl | .dic _ _ => rfl | .scr _ => rfl | .exv _ _ _ => rfl
  | .lst ds => by simp only [D.py, PyData.hasDict]; exact pys_noDict ds
  | .tup ds => by simp only [D.py, PyData.hasDict]; exact pys_noDict ds
theorem pys_noDict : ∀ d : List D, PyData.hasDictAll (D.pys d) = false
  | [] => rfl
  | d :: ds => by simp only [D.pys, PyData.hasDictAll, py_noDict d, pys_noDict ds, Bool.or_self]
end
def reprD (d : D) : Option D := if D.nod d = true ∧ d.py.showable = true ∧ d.py.shown.length ≤ sizeLine ∧ d.py.depth ≤ 60 then some (.str d.py.shown) else none
/-! ### the built-ins by name -/
inductive Bi where
  | len | all | any | sum | abs | int | str | repr | tuple | list | sorted
def Bi.name : Bi → Str
  | .len => "len" | .all => "all" | .any => "any" | .sum => "sum" | .abs => "abs" | .int => "int" | .str => "str" | .repr => "repr" | .tuple => "tuple" | .list => "list" | .sorted => "sorted"
def Bi.val : Bi → Value
  | .len => .builtin "len" | .all => .builtin "all" | .any => .builtin "any" | .sum => .builtin "sum" | .abs => .builtin "abs" | .int => .type "int" | .str => .type "str" | .repr => .builtin "repr" | .tuple => .type "tuple" | .list => .type "list" | .sorted => .builtin "sorted"
def blenD : List D → Option D
  | [.str z] => if z.length ≤ sizeLine then some (.int z.length) else none
  | [.lst ds] => some (.int ds.length)
  | [.tup ds] => some (.int ds.length)
  | [.scr ns] => some (.int ns.length)
  | _ => none
def ballD : List D → Option D
  | [.lst ds] => (boolsOf ds).map fun bs => .bl (bs.all id)
  | _ => none
def banyD : List D → Option D
  | [.lst ds] => (boolsOf ds).map fun bs => .bl (bs.any id)
  | _ => none
def bsumD : List D → Option D
  | [.lst ds] => (intsOf ds).map fun bs => .int bs.sum
  | [.scr ns] => some (.int ns.sum)
  | _ => none
def babsD : List D → Option D
  | [.int i] => some (.int (if i < 0 then -i else i))
  | _ => none
def bintD : List D → Option D
  | [.int i] => some (.int i)
  | [.bl b] => some (.int (if b then 1 else 0))
  | [.str a] => if a.length ≤ 640 then (PySem.intText? a).map .int else none
  | _ => none
def bstrD : List D → Option D
  | [.int i] => if i.natAbs.log2 < 1920 then some (.str (toString i)) else none
  | [.str a] => some (.str a)
  | _ => none
def breprD : List D → Option D
  | [d] => reprD d
  | _ => none
def btupleD : List D → Option D
  | [.lst ds] => some (.tup ds)
  | [.tup ds] => some (.tup ds)
  | _ => none
def blistD : List D → Option D
  | [.lst ds] => some (.lst ds)
  | [.tup ds] => some (.lst ds)
  | _ => none
def isTup1 : D → Bool
  | .tup (_ :: _) => true
  | _ => false
def noTup : D → Bool
  | .tup _ => false
  | .non => false
  | _ => true
def sortB (es : List D) : Bool := es.all D.nod && (es.all (fun d => es.all fun e => PySem.W.alike d.py e.py) && ((es.all isTup1 || es.all noTup) && (decide (es.length ≤ 1000000) && es.all fun d => decide (d.py.depth ≤ 50))))
def leD (a b : D) : Bool := PySem.W.dataLe false D.py a b
def bsortedD : List D → Option D
  | [.lst es] => if sortB es = true then some (.lst (es.mergeSort leD)) else none
  | _ => none
def biD : Bi → List D → Option D
  | .len => blenD
  | .all => ballD
  | .any => banyD
  | .sum => bsumD
  | .abs => babsD
  | .int => bintD
  | .str => bstrD
  | .repr => breprD
  | .tuple => btupleD
  | .list => blistD
  | .sorted => bsortedD
theorem each_of {K : PySem.W.Frag} {H : Hp} : ∀ {vs : List V} {es : List D} {us : List Value}, RelDs K H vs es → Vals vs us → PySem.W.EachIs (fun u d => ∃ v, L2.RelV v u ∧ RelD K H v d) us es
  | _, _, _, .nil, .nil => .nil
  | _, _, _, .cons a b, .cons r s => .cons ⟨_, r, a⟩ (each_of b s)
theorem of_each {K : PySem.W.Frag} {H : Hp} : ∀ {es : List D} {us : List Value}, PySem.W.EachIs (fun u d => ∃ v, L2.RelV v u ∧ RelD K H v d) us es → ∃ vs, RelDs K H vs es ∧ Vals vs us
  | _, _, .nil => ⟨[], .nil, .nil⟩
  | _, _, .cons ⟨v, r, a⟩ t => let ⟨vs, h1, h2⟩ := of_each t; ⟨v :: vs, .cons a h1, .cons r h2⟩
theorem sort_data {es : List D} (h : sortB es = true) : (∀ d ∈ es, D.nod d = true) ∧ PySem.W.AllAlike (es.map D.py) ∧ PySem.W.Sortable (es.map D.py) ∧ es.length ≤ 1000000 ∧ ∀ d ∈ es, d.py.depth ≤ 50 := by
  unfold sortB at h
  simp only [Bool.and_eq_true, Bool.or_eq_true, List.all_eq_true, decide_eq_true_eq] at h
  obtain ⟨h1, h2, h3, h4, h5⟩ := h
  refine ⟨h1, fun d hd d' hd' => ?_, ?_, h4, h5⟩
  · obtain ⟨x, hx, rfl⟩ := List.mem_map.mp hd
    obtain ⟨y, hy, rfl⟩ := List.mem_map.mp hd'
    exact h2 x hx y hy
  · rcases h3 with z | z
    · refine .inl fun d hd => ?_
      obtain ⟨x, hx, rfl⟩ := List.mem_map.mp hd
      have := z x hx
      match x, this with
      | .tup (y :: ys), _ => exact ⟨_, _, rfl⟩
    · refine .inr fun d hd => ?_
      obtain ⟨x, hx, rfl⟩ := List.mem_map.mp hd
      have h0 := h1 x hx
      have := z x hx
      cases x <;> first | (cases this; done) | (cases h0; done) | exact ⟨by simp [D.py], by simp [D.py]⟩
section
variable {X : Cx}
theorem bi_len : CallR X (.builtin "len") (rBiD X.K (biD .len)) := by
  intro pins s σ H xs us Q I r h
  obtain ⟨Hd, io, st, ds, d, l, p, e, q⟩ := h
  match ds, (show blenD ds = some d from e), p with
  | [.str z], e, p =>
    obtain ⟨v, rfl, pv⟩ := p.one
    rw [pv.str] at r
    have e' : (if z.length ≤ sizeLine then some (D.int z.length) else none) = some d := e
    by_cases hz : z.length ≤ sizeLine
    · rw [if_pos hz] at e'; cases e'
      exact call_len pins s σ H _ us Q I r ⟨_, _, rfl, ⟨hz, rfl⟩, q.here l (.int _)⟩
    · rw [if_neg hz] at e'; cases e'
  | [.lst es], e, p =>
    cases e
    obtain ⟨v, rfl, pv⟩ := p.one
    obtain ⟨a, vs, rfl, h1, h2⟩ := pv.list l.sub
    exact call_len_seq pins s σ H _ us Q I r ⟨a, vs, rfl, .inl (lq h1), by rw [h2.length]; exact q.here l (.int _)⟩
  | [.tup es], e, p =>
    cases e
    obtain ⟨v, rfl, pv⟩ := p.one
    obtain ⟨a, vs, rfl, h1, h2⟩ := pv.tuple l.sub
    exact call_len_seq pins s σ H _ us Q I r ⟨a, vs, rfl, .inr h1, by rw [h2.length]; exact q.here l (.int _)⟩
  | [.scr ns], e, p =>
    cases e
    obtain ⟨v, rfl, pv⟩ := p.one
    obtain ⟨a, rfl, h1⟩ := pv.scr l.sub
    exact call_len_seq pins s σ H _ us Q I r ⟨a, _, rfl, .inl h1, by rw [List.length_map]; exact q.here l (.int _)⟩
theorem bi_all (hc : X.calm = true) : CallR X (.builtin "all") (rBiD X.K (biD .all)) := by
  intro pins s σ H xs us Q I r h
  obtain ⟨Hd, io, st, ds, d, l, p, e, q⟩ := h
  match ds, (show ballD ds = some d from e), p with
  | [.lst es], e, p =>
    obtain ⟨v, rfl, pv⟩ := p.one
    obtain ⟨a, vs, rfl, h1, h2⟩ := pv.list l.sub
    have e' : (boolsOf es).map (fun bs => D.bl (bs.all id)) = some d := e
    cases eb : boolsOf es with
    | none => rw [eb] at e'; cases e'
    | some bs =>
      rw [eb] at e'; cases e'
      rw [boolsOf_ok eb] at h2
      have h3 := h2.of_bools
      subst h3
      exact cr_all hc pins s σ H _ us Q I r ⟨a, bs, rfl, lq h1, q.here l (.bl _)⟩
theorem bi_any (hc : X.calm = true) : CallR X (.builtin "any") (rBiD X.K (biD .any)) := by
  intro pins s σ H xs us Q I r h
  obtain ⟨Hd, io, st, ds, d, l, p, e, q⟩ := h
  match ds, (show banyD ds = some d from e), p with
  | [.lst es], e, p =>
    obtain ⟨v, rfl, pv⟩ := p.one
    obtain ⟨a, vs, rfl, h1, h2⟩ := pv.list l.sub
    have e' : (boolsOf es).map (fun bs => D.bl (bs.any id)) = some d := e
    cases eb : boolsOf es with
    | none => rw [eb] at e'; cases e'
    | some bs =>
      rw [eb] at e'; cases e'
      rw [boolsOf_ok eb] at h2
      have h3 := h2.of_bools
      subst h3
      exact cr_any hc pins s σ H _ us Q I r ⟨a, bs, rfl, lq h1, q.here l (.bl _)⟩
theorem bi_sum (hc : X.calm = true) : CallR X (.builtin "sum") (rBiD X.K (biD .sum)) := by
  intro pins s σ H xs us Q I r h
  obtain ⟨Hd, io, st, ds, d, l, p, e, q⟩ := h
  match ds, (show bsumD ds = some d from e), p with
  | [.lst es], e, p =>
    obtain ⟨v, rfl, pv⟩ := p.one
    obtain ⟨a, vs, rfl, h1, h2⟩ := pv.list l.sub
    have e' : (intsOf es).map (fun bs => D.int bs.sum) = some d := e
    cases eb : intsOf es with
    | none => rw [eb] at e'; cases e'
    | some bs =>
      rw [eb] at e'; cases e'
      rw [intsOf_ok eb] at h2
      have h3 := h2.of_ints
      subst h3
      exact cr_sum hc pins s σ H _ us Q I r ⟨a, bs, rfl, lq h1, q.here l (.int _)⟩
  | [.scr ns], e, p =>
    cases e
    obtain ⟨v, rfl, pv⟩ := p.one
    obtain ⟨a, rfl, h1⟩ := pv.scr l.sub
    exact cr_sum hc pins s σ H _ us Q I r ⟨a, ns, rfl, h1, q.here l (.int _)⟩
theorem bi_abs : CallR X (.builtin "abs") (rBiD X.K (biD .abs)) := by
  intro pins s σ H xs us Q I r h
  obtain ⟨Hd, io, st, ds, d, l, p, e, q⟩ := h
  match ds, (show babsD ds = some d from e), p with
  | [.int i], e, p =>
    cases e
    obtain ⟨v, rfl, pv⟩ := p.one
    rw [pv.int] at r
    exact call_abs pins s σ H _ us Q I r ⟨i, rfl, q.here l (.int _)⟩
theorem bi_int : CallR X (.type "int") (rBiD X.K (biD .int)) := by
  intro pins s σ H xs us Q I r h
  obtain ⟨Hd, io, st, ds, d, l, p, e, q⟩ := h
  match ds, (show bintD ds = some d from e), p with
  | [.int i], e, p =>
    cases e
    obtain ⟨v, rfl, pv⟩ := p.one
    rw [pv.int] at r
    exact call_int1 pins s σ H _ us Q I r (.inl ⟨i, rfl, q.here l (.int _)⟩)
  | [.bl b], e, p =>
    cases e
    obtain ⟨v, rfl, pv⟩ := p.one
    rw [pv.bl] at r
    exact call_int1 pins s σ H _ us Q I r (.inr ⟨b, rfl, q.here l (.int _)⟩)
  | [.str a], e, p =>
    obtain ⟨v, rfl, pv⟩ := p.one
    rw [pv.str] at r
    have e' : (if a.length ≤ 640 then (PySem.intText? a).map D.int else none) = some d := e
    by_cases hz : a.length ≤ 640
    · rw [if_pos hz] at e'
      cases ei : PySem.intText? a with
      | none => rw [ei] at e'; cases e'
      | some n =>
        rw [ei] at e'; cases e'
        exact call_int_str pins s σ H _ us Q I r ⟨a, n, rfl, ei, hz, q.here l (.int _)⟩
    · rw [if_neg hz] at e'; cases e'
theorem bi_str : CallR X (.type "str") (rBiD X.K (biD .str)) := by
  intro pins s σ H xs us Q I r h
  obtain ⟨Hd, io, st, ds, d, l, p, e, q⟩ := h
  match ds, (show bstrD ds = some d from e), p with
  | [.int i], e, p =>
    obtain ⟨v, rfl, pv⟩ := p.one
    rw [pv.int] at r
    have e' : (if i.natAbs.log2 < 1920 then some (D.str (toString i)) else none) = some d := e
    by_cases hz : i.natAbs.log2 < 1920
    · rw [if_pos hz] at e'; cases e'
      exact call_str_int pins s σ H _ us Q I r ⟨i, rfl, hz, q.here l (.str _)⟩
    · rw [if_neg hz] at e'; cases e'
  | [.str a], e, p =>
    cases e
    obtain ⟨v, rfl, pv⟩ := p.one
    rw [pv.str] at r
    exact SkE.call_str_str pins s σ H _ us Q I r ⟨a, rfl, q.here l (.str _)⟩
theorem bi_tuple : CallR X (.type "tuple") (rBiD X.K (biD .tuple)) := by
  intro pins s σ H xs us Q I r h
  obtain ⟨Hd, io, st, ds, d, l, p, e, q⟩ := h
  match ds, (show btupleD ds = some d from e), p with
  | [.lst es], e, p =>
    cases e
    obtain ⟨v, rfl, pv⟩ := p.one
    obtain ⟨a, vs, rfl, h1, h2⟩ := pv.list l.sub
    exact call_tuple_of pins s σ H _ us Q I r ⟨a, vs, rfl, .inl ⟨lq h1, fun b hb => q.newTup l h2 hb⟩⟩
  | [.tup es], e, p =>
    cases e
    obtain ⟨v, rfl, pv⟩ := p.one
    have pv' := pv
    obtain ⟨a, vs, rfl, h1, h2⟩ := pv.tuple l.sub
    have w1 : RelD X.K Hd (.ref a) (.tup es) := by
      rcases pv' with px | ⟨_, _, _, _, e, _⟩
      · exact px
      · cases e
    exact call_tuple_of pins s σ H _ us Q I r ⟨a, vs, rfl, .inr ⟨h1, q.here l w1⟩⟩
theorem bi_list : CallR X (.type "list") (rBiD X.K (biD .list)) := by
  intro pins s σ H xs us Q I r h
  obtain ⟨Hd, io, st, ds, d, l, p, e, q⟩ := h
  match ds, (show blistD ds = some d from e), p with
  | [.lst es], e, p =>
    cases e
    obtain ⟨v, rfl, pv⟩ := p.one
    obtain ⟨a, vs, rfl, h1, h2⟩ := pv.list l.sub
    exact call_list_of pins s σ H _ us Q I r ⟨a, vs, rfl, .inl (lq h1), fun b hb => q.newLst l h2 hb⟩
  | [.tup es], e, p =>
    cases e
    obtain ⟨v, rfl, pv⟩ := p.one
    obtain ⟨a, vs, rfl, h1, h2⟩ := pv.tuple l.sub
    exact call_list_of pins s σ H _ us Q I r ⟨a, vs, rfl, .inr h1, fun b hb => q.newLst l h2 hb⟩
theorem bi_sorted (hu : X.A.units + 64 < cLine) : CallR X (.builtin "sorted") (rBiD X.K (biD .sorted)) := by
  intro pins s σ H xs us Q I r h
  obtain ⟨Hd, io, st, ds, d, l, p, e, q⟩ := h
  match ds, (show bsortedD ds = some d from e), p with
  | [.lst es], e, p =>
    obtain ⟨v, rfl, pv⟩ := p.one
    obtain ⟨a, vs, rfl, h1, h2⟩ := pv.list l.sub
    have e' : (if sortB es = true then some (D.lst (es.mergeSort leD)) else none) = some d := e
    by_cases hz : sortB es = true
    · rw [if_pos hz] at e'
      cases e'
      obtain ⟨z1, z2, z3, z4, z5⟩ := sort_data hz
      obtain ⟨its, rv, hl, _⟩ := I.list (lq (K := X.K) h1)
      rw [Vals.ref1 r]
      have e1 := each_of h2 rv
      have e2 : PySem.W.EachIs (fun u d => ∃ as, Reads s.heap u (D.py d) as) its es := by
        have key : ∀ {es : List D} {us : List Value}, (∀ d ∈ es, D.nod d = true) → PySem.W.EachIs (fun u d => ∃ v, L2.RelV v u ∧ RelD X.K Hd v d) us es → PySem.W.EachIs (fun u d => ∃ as, Reads s.heap u (D.py d) as) us es := by
          intro es us hn h
          induction h with
          | nil => exact .nil
          | cons t r ih =>
            obtain ⟨v, r1, r2⟩ := t
            exact .cons (RelD.reads I _ _ _ (hn _ List.mem_cons_self) (r2.mono l.sub) r1) (ih fun d hd => hn d (List.mem_cons_of_mem _ hd))
        exact key z1 e1
      refine PySem.W.sorted_data (enc := D.py) hl.isList e1 e2 z2 z3 (Nat.le_trans z4 (by rw [sizeLine_eq]; decide)) (fun d hd => by have := z5 d hd; omega) fun out ho hs => ?_
      obtain ⟨ws, k1, k2⟩ := of_each hs
      obtain ⟨ep, he'⟩ := PyProof.Rows.sortedAll_at s.heap its out.toArray
      have hlen : ws.length ≤ sizeLine := by
        have := k2.length
        rw [this, ho]
        exact Nat.le_trans z4 (by rw [sizeLine_eq]; decide)
      exact ⟨.ref _, upd H (s.heap.objs.size + 1) (.lst ws), I.laid (t' := s.toks) (fun _ _ => PyProof.Rows.sortedAll_old) (Nat.le_succ _) ⟨hlen, out, ep, k2, he'⟩, rfl, q.newLst l k1 (I.hok.fresh (Nat.le_succ _))⟩
    · rw [if_neg hz] at e'; cases e'
theorem bi_repr (hg : X.A.guards = some []) (hu : X.A.units + 64 < cLine) : CallR X (.builtin "repr") (rBiD X.K (biD .repr)) := by
  intro pins s σ H xs us Q I r h
  obtain ⟨Hd, io, st, ds, d, l, p, e, q⟩ := h
  match ds, (show breprD ds = some d from e), p with
  | [y], e, p =>
    obtain ⟨v, rfl, pv⟩ := p.one
    obtain ⟨u, rfl, rx⟩ := vals1 r
    have e' : (if D.nod y = true ∧ y.py.showable = true ∧ y.py.shown.length ≤ sizeLine ∧ y.py.depth ≤ 60 then some (D.str y.py.shown) else none) = some d := e
    by_cases hz : D.nod y = true ∧ y.py.showable = true ∧ y.py.shown.length ≤ sizeLine ∧ y.py.depth ≤ 60
    · rw [if_pos hz] at e'; cases e'
      obtain ⟨z1, z2, z3, z4⟩ := hz
      have hv := pv.rel l.sub
      have hq := q.here l (.str _)
      have hsm : y.py.hasDict = true → ∀ as : List Addr, sysModules ∉ as := fun h => by rw [py_noDict] at h; cases h
      cases hv with
      | non => cases rx; exact PySem.P.repr_of_none ⟨.str _, H, I.tok _, ⟨_, rfl⟩, hq⟩
      | bl b => cases rx; exact PySem.P.repr_of_bool ⟨.str _, H, I.tok _, ⟨_, rfl⟩, hq⟩
      | int i => obtain ⟨t, rfl⟩ := rx; exact PySem.P.repr_of_int (of_decide_eq_true z2) ⟨.str _, H, I.tok _, ⟨_, rfl⟩, hq⟩
      | str a => obtain ⟨t, rfl⟩ := rx; exact PySem.P.repr_of_str ⟨.str _, H, I.tok _, ⟨_, rfl⟩, hq⟩ z3
      | lst h1 h2 =>
        obtain ⟨as, hr⟩ := RelD.reads I _ _ u z1 (.lst h1 h2) rx
        cases rx
        exact PySem.repr_of_reads' hr z2 (fun h => hsm h as) hg (by omega) (fun _ _ h => h) (fun h' t tk hk => ⟨.str _, H, I.kept hk, ⟨_, rfl⟩, hq⟩) z3
      | tup h1 h2 =>
        obtain ⟨as, hr⟩ := RelD.reads I _ _ u z1 (.tup h1 h2) rx
        cases rx
        exact PySem.repr_of_reads' hr z2 (fun h => hsm h as) hg (by omega) (fun _ _ h => h) (fun h' t tk hk => ⟨.str _, H, I.kept hk, ⟨_, rfl⟩, hq⟩) z3
      | dic => cases z1
      | scr => cases z1
      | exv0 => cases z1
      | exv => cases z1
    · rw [if_neg hz] at e'; cases e'
theorem bi_D (hc : X.calm = true) (hg : X.A.guards = some []) (hu : X.A.units + 64 < cLine) (b : Bi) : CallR X b.val (rBiD X.K (biD b)) := by
  cases b
  case len => exact bi_len
  case all => exact bi_all hc
  case any => exact bi_any hc
  case sum => exact bi_sum hc
  case abs => exact bi_abs
  case int => exact bi_int
  case str => exact bi_str
  case repr => exact bi_repr hg hu
  case tuple => exact bi_tuple
  case list => exact bi_list
  case sorted => exact bi_sorted hu
end
end Ev
set_option Elab.async false
set_option linter.all false
set_option maxRecDepth 100000
set_option maxHeartbeats 4000000
namespace Ev
open PySem PySem.Spec PyProof.Rows L2
open PySem.SeqAt
/-! ### the methods of texts -/
def rMtD (K : PySem.W.Frag) (f : D → List D → Option D) : V → List V → Hp → VK → Prop := fun x vs H Q => ∃ Hd io st dx ds d, Rl K Hd io st H ∧ PkD K Hd H x dx ∧ PkDs K Hd H vs ds ∧ f dx ds = some d ∧ Post K Hd io H (RelW K) Q (.ok (.d d) st)
inductive Mt where
  | split | join | upper | index
def Mt.name : Mt → Str
  | .split => "split" | .join => "join" | .upper => "upper" | .index => "index"
def Mt.id : Mt → String
  | .split => "str.split" | .join => "str.join" | .upper => "str.upper" | .index => "str.index"
def msplitD : D → List D → Option D
  | .str a, [.str b] => if (b.length == 0) = false ∧ a.length + 2 ≤ sizeLine then some (.lst ((Txt.split a b).map .str)) else none
  | _, _ => none
def joinFits (a : Str) (ys : List Str) : Bool := decide ((ys.map (·.length)).sum + ys.length * a.length ≤ 16777216)
def joinD1 (a : Str) (ds : List D) : Option D := match strsOf ds with
  | some ys => if joinFits a ys = true then some (.str (Txt.join a ys)) else none
  | none => none
def mjoinD : D → List D → Option D
  | .str a, [.lst ds] => joinD1 a ds
  | .str a, [.tup ds] => joinD1 a ds
  | _, _ => none
def mupperD : D → List D → Option D
  | .str a, [] => if a.length ≤ 5592405 then some (.str (Txt.upper a)) else none
  | _, _ => none
def mindexD : D → List D → Option D
  | .str a, [.str b] => match Builtin.Str.occurrences a b 0 a.length 1 with
    | i :: _ => some (.int (i : Nat))
    | [] => none
  | _, _ => none
def mtD : Mt → D → List D → Option D
  | .split => msplitD
  | .join => mjoinD
  | .upper => mupperD
  | .index => mindexD
section
variable {X : Cx}
theorem mt_splitD : MtR X "str.split" (rMtD X.K msplitD) := by
  intro pins s σ H x xs v us Q I rx r h
  obtain ⟨Hd, io, st, dx, ds, d, l, px, p, e, q⟩ := h
  match dx, ds, e, px, p with
  | .str a, [.str b], e, px, p =>
    obtain ⟨z, rfl, pz⟩ := p.one
    rw [px.str] at rx; rw [pz.str] at r
    have e' : (if (b.length == 0) = false ∧ a.length + 2 ≤ sizeLine then some (D.lst ((Txt.split a b).map .str)) else none) = some d := e
    by_cases hz : (b.length == 0) = false ∧ a.length + 2 ≤ sizeLine
    · rw [if_pos hz] at e'; cases e'
      exact mt_split pins s σ H _ _ v us Q I rx r ⟨a, b, rfl, rfl, hz.1, hz.2, fun c hc => q.newLst l (RelDs.strs _) hc⟩
    · rw [if_neg hz] at e'; cases e'
theorem mt_joinD : MtR X "str.join" (rMtD X.K mjoinD) := by
  intro pins s σ H x xs v us Q I rx r h
  obtain ⟨Hd, io, st, dx, ds, d, l, px, p, e, q⟩ := h
  match dx, ds, e, px, p with
  | .str a, [.lst es], e, px, p =>
    obtain ⟨z, rfl, pz⟩ := p.one
    rw [px.str] at rx
    obtain ⟨c, vs, rfl, h1, h2⟩ := pz.list l.sub
    have e' : joinD1 a es = some d := e
    unfold joinD1 at e'
    cases eb : strsOf es with
    | none => rw [eb] at e'; cases e'
    | some ys =>
      rw [eb] at e'
      dsimp only at e'
      by_cases hz : joinFits a ys = true
      · rw [if_pos hz] at e'; cases e'
        rw [strsOf_ok eb] at h2
        have h3 := h2.of_strs
        subst h3
        exact mt_join pins s σ H _ _ v us Q I rx r ⟨a, c, ys, rfl, rfl, .inl (lq h1), of_decide_eq_true hz, q.here l (.str _)⟩
      · rw [if_neg hz] at e'; cases e'
  | .str a, [.tup es], e, px, p =>
    obtain ⟨z, rfl, pz⟩ := p.one
    rw [px.str] at rx
    obtain ⟨c, vs, rfl, h1, h2⟩ := pz.tuple l.sub
    have e' : joinD1 a es = some d := e
    unfold joinD1 at e'
    cases eb : strsOf es with
    | none => rw [eb] at e'; cases e'
    | some ys =>
      rw [eb] at e'
      dsimp only at e'
      by_cases hz : joinFits a ys = true
      · rw [if_pos hz] at e'; cases e'
        rw [strsOf_ok eb] at h2
        have h3 := h2.of_strs
        subst h3
        exact mt_join pins s σ H _ _ v us Q I rx r ⟨a, c, ys, rfl, rfl, .inr h1, of_decide_eq_true hz, q.here l (.str _)⟩
      · rw [if_neg hz] at e'; cases e'
theorem mt_upperD : MtR X "str.upper" (rMtD X.K mupperD) := by
  intro pins s σ H x xs v us Q I rx r h
  obtain ⟨Hd, io, st, dx, ds, d, l, px, p, e, q⟩ := h
  match dx, ds, e, px, p with
  | .str a, [], e, px, p =>
    cases p
    rw [px.str] at rx
    have e' : (if a.length ≤ 5592405 then some (D.str (Txt.upper a)) else none) = some d := e
    by_cases hz : a.length ≤ 5592405
    · rw [if_pos hz] at e'; cases e'
      exact mt_upper pins s σ H _ _ v us Q I rx r ⟨a, rfl, rfl, hz, q.here l (.str _)⟩
    · rw [if_neg hz] at e'; cases e'
theorem mt_indexD : MtR X "str.index" (rMtD X.K mindexD) := by
  intro pins s σ H x xs v us Q I rx r h
  obtain ⟨Hd, io, st, dx, ds, d, l, px, p, e, q⟩ := h
  match dx, ds, e, px, p with
  | .str a, [.str b], e, px, p =>
    obtain ⟨z, rfl, pz⟩ := p.one
    rw [px.str] at rx; rw [pz.str] at r
    have e' : (match Builtin.Str.occurrences a b 0 a.length 1 with
      | i :: _ => some (D.int (i : Nat))
      | [] => none) = some d := e
    cases eo : Builtin.Str.occurrences a b 0 a.length 1 with
    | nil => rw [eo] at e'; cases e'
    | cons i rest =>
      rw [eo] at e'; cases e'
      exact mt_sindex pins s σ H _ _ v us Q I rx r ⟨a, b, i, rest, rfl, rfl, eo, q.here l (.int _)⟩
theorem mt_D (m : Mt) : MtR X m.id (rMtD X.K (mtD m)) := by
  cases m
  case split => exact mt_splitD
  case join => exact mt_joinD
  case upper => exact mt_upperD
  case index => exact mt_indexD
theorem mtD_str {m : Mt} {x : D} {xs : List D} {d : D} (h : mtD m x xs = some d) : ∃ a, x = .str a := by
  cases x with
  | str a => exact ⟨a, rfl⟩
  | _ => cases m <;> cases xs <;> cases h
theorem slot_mt (m : Mt) : Slot "str" m.name m.id := by
  cases m
  case split => exact PySem.F.slot_str_split
  case join => exact PySem.F.slot_str_join
  case upper => exact PySem.F.slot_str_upper
  case index => exact PySem.F.slot_str_index
theorem type_mt (m : Mt) : typeOf (.builtin m.id) = pure (.type "method_descriptor") := by
  cases m
  case split => exact PySem.F.type_str_split
  case join => exact PySem.F.type_str_join
  case upper => exact PySem.F.type_str_upper
  case index => exact PySem.F.type_str_index
end
end Ev
set_option Elab.async false
set_option linter.all false
set_option maxRecDepth 100000
set_option maxHeartbeats 4000000
namespace Ev
open PySem PySem.Spec PyProof.Rows L2
open PySem.SeqAt
/-! ### a def's promise where nothing is being shown (repr's guards are empty) -/
structure FnG (P : Program) (w : World) (K : PySem.W.Frag) (mg : Str → Option Value) (base : Heap) (k : Nat) (f : Addr) (fd : FuncData) (ps : List Str) (sp : Sp) : Prop where
  len : ∀ vs H Q E, sp vs H Q E → vs.length = ps.length
  run : ∀ (Ar : Around) (fr : List Env) (sh : Shared) (Ha : Hp) (ar : Args) (us : List Value) (vs : List V) (Q : VK) (E : XK), Room k Ar → Ar.guards = some [] → Env0 P w K mg base Ar fr sh Ha → BindsTo sh fd ar (ps.zip us) → Vals vs us → sp vs Ha Q E →
    codeAny (model P w) Ar (.call (.ref f) ar) (CR (L2.CX P w) fr P w Ha sh Q E) sh
theorem FnG.mono {P : Program} {w : World} {K : PySem.W.Frag} {mg : Str → Option Value} {base : Heap} {j k : Nat} {f : Addr} {fd : FuncData} {ps : List Str} {sp : Sp} (F : FnG P w K mg base j f fd ps sp) (h : j ≤ k) :
    FnG P w K mg base k f fd ps sp := ⟨F.len, fun Ar fr sh Ha ar us vs Q E hr => F.run Ar fr sh Ha ar us vs Q E (hr.mono h)⟩
theorem fnG_of {P : Program} {w : World} {K : PySem.W.Frag} {mg : Str → Option Value} {base : Heap} {k : Nat} {x qual : Str} {params : Arguments} {body : List Stmt} {scope : Scope} {dvs : List V} {kws : List (Str × V)} {f : Addr} {fd : FuncData}
    {N ps : List Str} {sp : Sp} (F : FunD K x qual params body scope dvs kws f fd) (S : FnScope N ps scope) (len : ∀ vs H Q E, sp vs H Q E → vs.length = ps.length)
    (hbody : ∀ (cdv : Value) (Ar : Around) (fr : List Env) (sh : Shared) (Ha : Hp) (vs : List V) (Q : VK) (E : XK), Room k (Ar.deeper (envOfC qual scope sh.heap.objs.size f cdv)) → Ar.guards = some [] → sp vs Ha Q E →
      ∃ t, PSs (cxOf (L2.CX P w) P w K mg base N qual scope f cdv Ar fr sh Ha E) body t ∧ t { nx := fun _ H' => Q .non H', rt := Q } (start N vs) Ha) : FnG P w K mg base (k + 1) f fd ps sp := by
  obtain ⟨oc, od, dV, kV, doc, pm, an, cdv, ct, osl, rfl, lk, hcd, _, _⟩ := F.ex
  refine ⟨len, fun Ar fr sh Ha ar us vs Q E hr hgd ev hb rel want => ?_⟩
  have hl := len _ _ _ _ want
  have old : ∀ b o, base.get? b = some o → sh.heap.get? b = some o := fun b o e => (ev.bs b o e).1
  have KX : K.In sh.heap := ev.mod.kin.keeps old
  have here : ∀ y ∈ ps.zip us, scope.names.lookup y.1 = some .local ∨ (scope.names.lookup y.1 = some .cell ∧ ((cellsFrom (sh.heap.objs.size + 1) scope.names []).lookup y.1).isSome = true) := fun y hy => by
    rcases S.par y.1 (List.of_mem_zip (a := y.1) (b := y.2) hy).1 with q | q
    · exact .inl q
    · exact .inr ⟨q, PySem.W.cellsFrom_some _ _ _ (.inl q)⟩
  refine codeAny_call_function hr.depth (KX _ _ lk) rfl S.co S.gen rfl (PySem.W.codeRec_of KX hcd) (hb _ _ _ _ ?_)
  refine wpAny_newFunctionEnv_cells S.kind here fun env he s1 x1 => ?_
  subst he
  refine ⟨(ev.mod.nolimit.keeps old).keeps x1.toInCall.keep, codeAny_func ?_⟩
  obtain ⟨t, ht, hq⟩ := hbody cdv Ar fr sh Ha vs Q E (hr.deeper _) hgd want
  have I0 := inv_start (CX := L2.CX P w) (E := E) (N := N) S hr.hd ev hl rel x1
  refine wpAny_mono (ht.run [] s1 (start N vs) Ha _ I0 hq) (fun fl s' hs => ?_) fun e s' hs => hs
  cases fl with
  | ret u =>
    obtain ⟨v, sg, H', J, rv, q⟩ := hs
    exact ⟨v, H', J.os, J.bare, J.base, J.hok, rv, q⟩
  | next =>
    obtain ⟨sg, H', J, q⟩ := hs
    exact ⟨V.non, H', J.os, J.bare, J.base, J.hok, rfl, q⟩
  | brk =>
    obtain ⟨_, _, _, q⟩ := hs
    exact q.elim
  | cont =>
    obtain ⟨_, _, _, q⟩ := hs
    exact q.elim
section
variable {X : Cx} {k : Nat} {f : Addr} {fd : FuncData} {ps : List Str} {sp : Sp} {W : WX} {x : Str} {p pos : Pos} {e : Expr} {es : List Expr} {t : TA} {ds : List Value} {dvs : List V}
def tCallG (sp : Sp) (dvs : List V) (W : WX) (t : TA) : TE := fun σ H Q => t σ H fun vs H1 => sp (vs ++ dvs) H1 Q fun cls d H2 => W cls d σ H2
theorem run_fnG {pins : List (Addr × Obj)} {σ : L2.St} {H : Hp} {s : Shared} {Q : VK} {us : List Value} {vs : List V} (F : FnG X.prog X.w X.K X.mg X.base k f fd ps sp) (hr : Room k X.A) (hgd : X.A.guards = some []) (hb : Binds X.K fd ps ds) (hd : Vals dvs ds) (tk : Takes X W)
    (I : Inv X pins σ H s) (r : Vals vs us) (h : sp (vs ++ dvs) H Q fun cls d H2 => W cls d σ H2) : wpAny (model X.prog X.w) X.A (call (.ref f) us) (EP X pins σ Q) X.xe s := by
  have rr := r.append hd
  have hl := F.len _ _ _ _ h
  refine wpAny_call (codeAny_mono (F.run X.A X.stack s H ⟨us, []⟩ (us ++ ds) (vs ++ dvs) Q _ hr hgd I.env0 (hb s us I.kIn (by rw [← rr.length]; exact hl)) rr h) fun rs s' hq => ?_)
  match rs, hq with
  | .error e, hq => exact passAt tk σ pins H s e s' I hq
  | .ok (.ret u), hq => exact I.after hq
  | .ok .next, hq => exact hq.elim
  | .ok .brk, hq => exact hq.elim
  | .ok .cont, hq => exact hq.elim
theorem pe_callG (F : FnG X.prog X.w X.K X.mg X.base k f fd ps sp) (hr : Room k X.A) (hgd : X.A.guards = some []) (hg : Gl X x) (hm : X.mg x = some (.ref f)) (hk : PySem.W.keepIn X.K (.ref f) = true) (hb : Binds X.K fd ps ds) (hd : Vals dvs ds) (tk : Takes X W)
    (ha : PA X (e :: es) t) (hdb : (x == ("__debug__" : Str)) = false) (he : starEach (e :: es) X.env = (false, eval e X.env) :: starEach es X.env) (hpl : (backTo pos (starEach es X.env)).any (·.1) = false) :
    PE X (.Call (.Name x p) (e :: es) [] pos) (tCallG sp dvs W t) := by
  refine ⟨fun pins s σ H Q I h => wpAny_Call_Name_kw (ld_glob I hg hm ?_ hdb)⟩
  refine PySem.W.callWith_K (h₀ := X.base) I.ok.mod.kin hk (thn (ha.run pos pins s σ H _ I h) fun us s1 ⟨vs, H1, I1, r, q⟩ => ⟨I1.kIn, ?_⟩) he hpl
  exact run_fnG F hr hgd hb hd tk I1 r q
theorem pe_callG0 (F : FnG X.prog X.w X.K X.mg X.base k f fd ps sp) (hr : Room k X.A) (hgd : X.A.guards = some []) (hg : Gl X x) (hm : X.mg x = some (.ref f)) (hk : PySem.W.keepIn X.K (.ref f) = true) (hb : Binds X.K fd ps ds) (hd : Vals dvs ds) (tk : Takes X W)
    (hdb : (x == ("__debug__" : Str)) = false) : PE X (.Call (.Name x p) [] [] pos) (tCallG sp dvs W tNil) := by
  refine ⟨fun pins s σ H Q I h => wpAny_Call_Name_kw (ld_glob I hg hm ?_ hdb)⟩
  exact PySem.W.callWith_K0 I.kIn hk (run_fnG (us := []) F hr hgd hb hd tk I .nil h)
end
/-! ### the law is called -/
theorem law_callG {P : Program} {w : World} {K : PySem.W.Frag} {mg mb : Str → Option Value} {k : Nat} {fa a : Addr} {fd : FuncData} {x : Str} {sp : Sp} {s1 : Shared} {vs : List Value} {ns : List Int}
    (KX : K.In s1.heap) (nG : s1.heap.Ns mainGlobals mg) (nB : s1.heap.Ns builtinsNs mb) (hbb : ∀ x : Str, x ≠ "__name__" → mb x = bootBuiltins x) (lim : s1.heap.NoLimit) (noG : s1.gens = #[])
    (ha : s1.heap.get? a = some { cls := .type "list", data := .seq vs.toArray }) (hi : IntsAre vs ns) (hl : ns.length ≤ sizeLine) (hr : Room k callerA)
    (F : ∀ base : Heap, K.In base → base.Ns mainGlobals mg → FnG P w K mg base k fa fd [x] sp) (hbind : ∀ (s : Shared) (u : Value), BindsTo s fd ⟨[u], []⟩ [(x, u)])
    (want : ∀ H : Hp, SqL K H a (ns.map V.int) → sp [.ref a] H (fun v _ => v = .bl true) fun _ _ _ => False) :
    codeAny (model P w) callerA (.call (.ref fa) ⟨[.ref a], []⟩) (fun r s' => r = .ok (.ret (.bool true)) ∧ OldK s1.heap s'.heap ∧ s'.os = s1.os ∧ AllBare s'.gens) s1 := by
  have rv := vals_ints hi
  -- whatever of the script is tracked
  have main : ∀ Ha : Hp, (∀ b, Ha b = none ∨ ∃ o xs, Ha b = some (.frz o (.lst xs))) → SqL K Ha a (ns.map V.int) → HOk P w Ha s1.heap → (∀ b, Ha b ≠ none → b = a) → (Ha a ≠ none → K.lookup a = none) →
      codeAny (model P w) callerA (.call (.ref fa) ⟨[.ref a], []⟩) (fun r s' => r = .ok (.ret (.bool true)) ∧ OldK s1.heap s'.heap ∧ s'.os = s1.os ∧ AllBare s'.gens) s1 := by
    intro Ha only hS ok isA isK
    have low : ∀ {b : Addr} {o : Obj}, s1.heap.get? b = some o → Ha b = none → (hidT s1.heap Ha).get? b = some o := fun e n => hidT_get e n
    have dictFree : ∀ {b : Addr} {o : Obj} {es : Array DictEntry} {ep : Nat}, s1.heap.get? b = some o → o.data = .dict es ep → Ha b = none := fun {b o es ep} e d => by
      cases q : Ha b with
      | none => rfl
      | some u =>
        obtain rfl : b = a := isA b (by rw [q]; simp)
        rw [ha] at e; cases e
        exact nomatch (show Data.seq vs.toArray _ = Data.dict es ep from d)
    have nsLow : ∀ {b : Addr} {m : Str → Option Value}, s1.heap.Ns b m → (hidT s1.heap Ha).Ns b m := fun ⟨o, es, ep, e, d, r⟩ => ⟨o, es, ep, low e (dictFree e d), d, r⟩
    have KL : K.In (hidT s1.heap Ha) := fun b o e => low (KX b o e) (by
      cases q : Ha b with
      | none => rfl
      | some u =>
        obtain rfl : b = a := isA b (by rw [q]; simp)
        rw [isK (by rw [q]; simp)] at e; cases e)
    have hM : Mod K mg (hidT s1.heap Ha) := ⟨KL, nsLow nG, ⟨mb, nsLow nB, hbb⟩, let ⟨mc, h1, h2⟩ := lim; ⟨mc, nsLow h1, h2⟩⟩
    have noFr : ∀ b ∈ frs ([] : List Env), Ha b = none := fun b hb => absurd (show b ∈ ([] : List Addr) from hb) (by simp)
    have ev : Env0 P w K mg (hidT s1.heap Ha) callerA [] s1 Ha := ⟨rfl, hM, fun b o e => of_hidT e, Nat.le_of_eq (hidT_size _ _), trivial, noFr, ok, .of_eq noG⟩
    refine codeAny_mono ((F _ KL (nsLow nG)).run callerA [] s1 Ha ⟨[.ref a], []⟩ [.ref a] [.ref a] _ _ hr rfl ev (hbind s1 (.ref a)) (.cons rfl .nil) (want Ha hS)) fun r s' h => ?_
    match r, h with
    | .error e, h =>
      obtain ⟨_, _, _, _, _, _, _, _, _, _, _, _, z⟩ := h
      exact z.elim
    | .ok .next, h => exact h.elim
    | .ok .brk, h => exact h.elim
    | .ok .cont, h => exact h.elim
    | .ok (.ret u), h =>
      obtain ⟨v, H', os, bare, un, ok', r', q⟩ := h
      obtain rfl : v = .bl true := q
      obtain rfl : u = Value.bool true := r'
      refine ⟨rfl, OldK.of_keep fun b o e => ?_, os, bare⟩
      have noB : b ∉ frs ([] : List Env) := fun z => absurd (show b ∈ ([] : List Addr) from z) (by simp)
      rcases only b with z | ⟨ob, xs, z⟩
      · exact un.keep b o e z noB (by simp)
      · obtain ⟨e1, _⟩ := ok b _ z
        obtain ⟨e2, _⟩ := ok' b _ (un.frzs b ob _ z)
        rw [e] at e1; cases e1
        exact e2
  cases hk : K.lookup a with
  | some o =>
    have e := KX a o hk
    rw [ha] at e; cases e
    have nothing : ¬ (none : Option HO) ≠ none := fun z => z rfl
    refine main (fun _ => none) (fun _ => .inl rfl) (.inr ⟨_, vs.toArray, _, hk, rfl, rfl, rfl, ?_, by simpa using rv⟩) (fun b u z => nomatch z) (fun b z => (nothing z).elim) fun z => (nothing z).elim
    rw [List.size_toArray, hi.length]
    exact hl
  | none =>
    let sc : HO := .frz { cls := .type "list", data := .seq vs.toArray } (.lst (ns.map V.int))
    have at_ : ∀ b, (fun b => if b = a then some sc else none) b = if b = a then some sc else none := fun _ => rfl
    refine main (fun b => if b = a then some sc else none) (fun b => ?_) (.inl (.inr ⟨_, if_pos rfl⟩)) (fun b u z => ?_) (fun b z => ?_) fun _ => hk
    · by_cases hb : b = a
      · exact .inr ⟨_, _, if_pos hb⟩
      · exact .inl (if_neg hb)
    · by_cases hb : b = a
      · subst hb
        cases (if_pos rfl).symm.trans z
        exact ⟨ha, by rw [List.length_map]; exact hl, vs, _, rv, ha⟩
      · cases (if_neg hb).symm.trans z
    · by_cases hb : b = a
      · exact hb
      · exact absurd (if_neg hb) z
theorem walk_ofG {l : PySem.W.OpenLaw} {n k : Nat} {q : Program} {loose : List Str} {XP : (Str → Option Value) → Heap → Prop} {YP : World → Heap → Prop} {d : DefRec} {x : Str}
    (hn : l.most = some n) (hn2 : n ≤ sizeLine) (hdf : d.params.defaults = []) (hr : Room k callerA)
    (F : ∀ (w : World) (mg : Str → Option Value) (fa : Addr) (h : Heap), YP w h → h.Ns mainGlobals mg → mg d.name = some (.ref fa) →
      ∃ (K : PySem.W.Frag) (fd : FuncData) (sp : Sp), K.In h ∧ (∀ (s : Shared) (u : Value), BindsTo s fd ⟨[u], []⟩ [(x, u)]) ∧
        (∀ (H : Hp) (a : Addr) (ns : List Int), ns.length ≤ n → (∀ z ∈ ns, Builtin.Int.intBits z ≤ 1048576) → SqL K H a (ns.map V.int) → sp [.ref a] H (fun v _ => v = .bl true) fun _ _ _ => False) ∧
        ∀ base : Heap, K.In base → base.Ns mainGlobals mg → FnG l.prog w K mg base k fa fd [x] sp) :
    PySem.W.WalkO q loose XP YP l.row.toRowW d [] (fun f vs => PySem.call f vs) := by
  refine Att.attach_callB hn hdf fun w s0 s1 mg mb fa o pm cd doc a vs ns G Y ho hd hcd hmg hobj hints hlen hbits hg => ?_
  obtain ⟨K, fd, sp, KX, hb, hsp, hF⟩ := F w mg fa _ Y G.T.g hmg
  exact law_callG KX G.T.g G.T.b G.T.builtins G.T.nolimit hg hobj hints (Nat.le_trans hlen hn2) hr hF hb fun H hS => hsp H a ns hlen hbits hS
end Ev
set_option Elab.async false
set_option linter.all false
set_option maxRecDepth 100000
set_option maxHeartbeats 4000000
namespace Ev
open PySem PySem.Spec PyProof.Rows L2
/-! ### sets of texts -/
def strOf (e : Int × Value) : Str := match e.2 with | .str k _ => k | _ => Str.empty
def GoodS (w : World) (e : Int × Value) : Prop := ∃ k tk, e.2 = Value.str k tk ∧ e.1 = hashStr w k
def SetS (w : World) (h : Heap) (a : Addr) (L : List Str) : Prop :=
  ∃ o es ep t, h.get? a = some o ∧ o.ExactSet ∧ o.data = .set es ep t ∧ (∀ e ∈ es.toList, GoodS w e) ∧ (es.toList.map strOf).Nodup ∧ (es.toList.map strOf).Perm L ∧
    es.size < scanBound ∧ t.fits es.size = true ∧ Ris t.place.toList ∧ (w.params.followText "set-order" = true ∨ t.led = true)
def addT (L : List Str) (k : Str) : List Str := if k ∈ L then L else k :: L
section
variable {P : Program} {w : World} {h h' : Heap} {a : Addr} {L : List Str}
theorem SetS.at (R : SetS w h a L) (k : ∀ o, h.get? a = some o → h'.get? a = some o) : SetS w h' a L := by
  obtain ⟨o, es, ep, t, ho, r⟩ := R
  exact ⟨o, es, ep, t, k o ho, r⟩
theorem goodS_elems {l : List (Int × Value)} (g : ∀ e ∈ l, GoodS w e) : ElemsOf (strKind P w) l := fun e he => by
  obtain ⟨k, tk, h1, h2⟩ := g e he
  exact ⟨⟨k, by rw [h1]; exact strKind_is P w k tk, h2⟩, by rw [h1] <;> rfl⟩
theorem goodS_is {e : Int × Value} (g : GoodS w e) (k : Str) : (strKind P w).is k e.2 = true ↔ strOf e = k := by
  obtain ⟨k0, tk, h1, _⟩ := g
  unfold strOf
  rw [h1]
  show Value.isStrOf k (.str k0 tk) = true ↔ k0 = k
  simp [Value.isStrOf]
theorem goodS_mem {l : List (Int × Value)} (g : ∀ e ∈ l, GoodS w e) (k : Str) : k ∈ l.map strOf ↔ ∃ e ∈ l, (strKind P w).is k e.2 = true := by
  rw [List.mem_map]
  constructor
  · rintro ⟨e, he, q⟩
    exact ⟨e, he, (goodS_is (g e he) k).2 q⟩
  · rintro ⟨e, he, q⟩
    exact ⟨e, he, (goodS_is (g e he) k).1 q⟩
end
section
variable {P : Program} {w : World} {A : Around} {E : Value → Shared → Prop} {s : Shared} {a : Addr} {L : List Str}
theorem setS_add_tail {g : Bool → Sem Unit} (hg : ∀ (b : Bool) (s₁ : Shared) (Q' : Unit → Shared → Prop), Q' () s₁ → wpAny (model P w) A (g b) Q' E s₁)
    {o : Obj} {es : Array (Int × Value)} {ep : Nat} {t : SetTable} (ho : s.heap.get? a = some o) (hex : o.ExactSet) (hd : o.data = .set es ep t)
    {es1 : Array (Int × Value)} {t2 : SetTable} {L' : List Str} (g1 : ∀ e ∈ es1.toList, GoodS w e) (nd1 : (es1.toList.map strOf).Nodup) (m1 : (es1.toList.map strOf).Perm L')
    (hb1 : es1.size < scanBound) (hf2 : t2.fits es1.size = true) (hr : Ris t2.place.toList) (hl : w.params.followText "set-order" = true ∨ t2.led = true) {wasDummy : Bool} {R : Option Bool → Shared → Prop}
    (hR : ∀ h', Heap.SameBut a s.heap h' → SetS w h' a L' → R (some true) { s with heap := h' }) :
    wpAny (model P w) A (do
        storeSet a es1 t2
        if (!wasDummy && t2.tooFull) = true then do
            g (relayAll t2 es1 (SetTable.grown es1.size)).2.2
            storeSet a (relayAll t2 es1 (SetTable.grown es1.size)).1 (relayAll t2 es1 (SetTable.grown es1.size)).2.1
            pure (some true)
          else pure (some true)) R E s := by
  refine wpAny_bind (wpAny_storeSet_of ho hd ?_ (fits_of_scanBound hb1))
  have ho1 := store_at (es' := es1) (t' := t2) ho hd
  have sb1 := Heap.SameBut.update s.heap a (Obj.putSet es1 t2)
  split
  · have pm := relayAll_perm t2 es1 (SetTable.grown es1.size)
    have hf3 := relayAll_fits t2 es1 (SetTable.grown es1.size)
    have hr3 := relayAll_ris t2 es1 (SetTable.grown es1.size)
    have hl3 := relayAll_led t2 es1 (SetTable.grown es1.size)
    generalize relayAll t2 es1 (SetTable.grown es1.size) = Z at pm hf3 hr3 hl3 ⊢
    obtain ⟨es2, t3, gave⟩ := Z
    dsimp only at pm hf3 hr3 hl3 ⊢
    have hsz : es2.size = es1.size := by rw [← Array.length_toList, pm.length_eq, Array.length_toList]
    have hb2 : es2.size < scanBound := by rw [hsz]; exact hb1
    refine wpAny_bind (hg _ _ _ ?_)
    refine wpAny_bind (wpAny_storeSet_of ho1 rfl ?_ (fits_of_scanBound hb2))
    have ho2 := store_at (es' := es2) (t' := t3) ho1 rfl
    refine wpAny_pure (hR _ (sb1.trans (Heap.SameBut.update _ a _)) ?_)
    exact ⟨_, es2, _, t3, ho2, hex, rfl, fun e he => g1 e (pm.mem_iff.mp he), (pm.map strOf).nodup_iff.mpr nd1, (pm.map strOf).trans m1, hb2, hf3, hr3, hl.imp id fun z => by rw [hl3]; exact z⟩
  · exact wpAny_pure (hR _ sb1 ⟨_, es1, _, t2, ho1, hex, rfl, g1, nd1, m1, hb1, hf2, hr, hl⟩)
theorem setS_add_hashed {k : Str} {tk : Tok} {Q : Bool → Shared → Prop} (R : SetS w s.heap a L) (room : L.length + 1 < scanBound)
    (hQ : ∀ h' b, Heap.SameBut a s.heap h' → SetS w h' a (addT L k) → Q b { s with heap := h' }) :
    wpAny (model P w) A (setAddHashed a (.str k tk) ((strKind P w).hash k)) Q E s := by
  obtain ⟨o, es, ep, t, ho, hex, hd, g, nd, hm, hb, hf, hr, hl⟩ := R
  have hn : es.size = L.length := by rw [← hm.length_eq, List.length_map, Array.length_toList]
  have hkey : (strKind P w).is k (.str k tk) = true := strKind_is P w k tk
  have hsc : (Value.str k tk).scannable = true := rfl
  have hel : ElemsOf (strKind P w) es.toList := goodS_elems g
  unfold setAddHashed setAddHashedIn
  refine wpAny_holding (wpAny_bind (wpAny_setState_of ho hd hf ?_))
  dsimp only
  rw [byScan_of hsc hb hel]
  simp only [↓reduceIte]
  unfold setAddByScan
  refine wpAny_bind ?_
  refine wpAny_bind (wpAny_rule ?_)
  refine wpAny_bind (wpAny_setScan_of hkey ho hd hf hel ?_)
  cases hfi : List.findIdx? (fun e => (strKind P w).is k e.2) es.toList with
  | some j =>
    dsimp only
    obtain ⟨hj, pj, _⟩ := List.findIdx?_eq_some_iff_getElem.mp hfi
    have hin : k ∈ L := hm.mem_iff.mp ((goodS_mem (P := P) (w := w) g k).2 ⟨es.toList[j], List.getElem_mem hj, pj⟩)
    refine wpAny_pure (wpAny_pure ?_)
    exact hQ s.heap _ (Heap.SameBut.refl a s.heap) ⟨o, es, ep, t, ho, hex, hd, g, nd, by unfold addT; rw [if_pos hin]; exact hm, hb, hf, hr, hl⟩
  | none =>
    dsimp only
    have hnk : k ∉ es.toList.map strOf := fun z => by
      obtain ⟨e, he, q⟩ := (goodS_mem (P := P) (w := w) g k).1 z
      have c := List.findIdx?_eq_none_iff.mp hfi e he
      rw [q] at c
      cases c
    have hnL : k ∉ L := fun z => hnk (hm.mem_iff.mpr z)
    have hgw : ∀ (b : Bool) {s₁ : Shared} {Q' : Unit → Shared → Prop}, Q' () s₁ → wpAny (model P w) A (match b with | true => rule "set.scan.the-table-gave-way" | false => pure ()) Q' E s₁ :=
      fun b s₁ Q' q => by cases b <;> first | exact wpAny_pure q | exact wpAny_rule q
    have pm := layNew_perm t es ((strKind P w).hash k) (.str k tk)
    have hf1 := layNew_fits t es ((strKind P w).hash k) (.str k tk)
    have hr1 := layNew_ris t es ((strKind P w).hash k) (.str k tk) hr
    have hl1 := layNew_led t es ((strKind P w).hash k) (.str k tk)
    generalize layNew t es ((strKind P w).hash k) (.str k tk) = Z at pm hf1 hr1 hl1 ⊢
    obtain ⟨es1, t1, wasDummy, gave⟩ := Z
    dsimp only at pm hf1 hr1 hl1 ⊢
    rw [Array.toList_push] at pm
    have pc : es1.toList.Perm (((strKind P w).hash k, Value.str k tk) :: es.toList) := pm.trans (List.perm_append_singleton _ _)
    have pk : (es1.toList.map strOf).Perm (k :: es.toList.map strOf) := pc.map strOf
    have g1 : ∀ e ∈ es1.toList, GoodS w e := fun e he => by
      rcases List.mem_cons.mp (pc.mem_iff.mp he) with z | z
      · rw [z]; exact ⟨k, tk, rfl, rfl⟩
      · exact g e z
    have nd1 : (es1.toList.map strOf).Nodup := pk.nodup_iff.mpr (List.nodup_cons.mpr ⟨hnk, nd⟩)
    have m1 : (es1.toList.map strOf).Perm (addT L k) := by
      unfold addT
      rw [if_neg hnL]
      exact pk.trans (hm.cons k)
    have hsz : es1.size = L.length + 1 := by rw [← Array.length_toList, pc.length_eq, List.length_cons, Array.length_toList, hn]
    have hb1 : es1.size < scanBound := by rw [hsz]; exact room
    have hled : w.params.followText "set-order" = true ∨ t1.led = true := hl.imp id fun z => by rw [hl1]; exact z
    have fin : ∀ h', Heap.SameBut a s.heap h' → SetS w h' a (addT L k) → Q true { s with heap := h' } := fun h' sb r => hQ h' true sb r
    refine wpAny_bind (hgw _ ?_)
    split
    · refine wpAny_bind ?_
      rw [hashByValue_scannable 8 hsc]
      refine wpAny_pure ?_
      refine setS_add_tail ?_ ho hex hd g1 nd1 m1 hb1 ?_ ?_ ?_ ?_
      · intro b s₁ Q' q; cases b <;> first | exact wpAny_pure q | exact wpAny_rule q
      · first | (split <;> first | exact hf1 | exact SetTable.fits_plain_off hf1) | exact hf1
      · first | (split <;> exact hr1) | exact hr1
      · first | (split <;> exact hled) | exact hled
      · intro h' sb r; dsimp only; exact wpAny_pure (fin h' sb r)
    · refine wpAny_bind (wpAny_pure ?_)
      simp only [↓reduceIte]
      refine setS_add_tail ?_ ho hex hd g1 nd1 m1 hb1 hf1 hr1 hled ?_
      · intro b s₁ Q' q; cases b <;> first | exact wpAny_pure q | exact wpAny_rule q
      · intro h' sb r; dsimp only; exact wpAny_pure (fin h' sb r)
theorem setS_fresh {h : Heap} {a : Addr} (ho : h.get? a = some { cls := .type "set", dict := none, data := .set #[] 0 (.fresh 0 0 (!w.params.followText "set-order")) }) : SetS w h a [] :=
  ⟨_, #[], 0, _, ho, ⟨rfl, rfl, rfl⟩, rfl, (fun e he => by simp at he), (by simp), (by simp), (by decide), (by rfl), List.Pairwise.nil, by
    show _ ∨ (!w.params.followText "set-order") = true
    cases w.params.followText "set-order"
    · exact .inr rfl
    · exact .inl rfl⟩
theorem addT_len (L : List Str) (k : Str) : (addT L k).length ≤ L.length + 1 := by
  unfold addT
  split
  · omega
  · simp
def setL (xs : List Str) : List Str := xs.foldl addT []
theorem fold_len : ∀ (xs L : List Str), (xs.foldl addT L).length ≤ L.length + xs.length
  | [], L => by simp
  | x :: xs, L => by
    have := fold_len xs (addT L x)
    have := addT_len L x
    simp only [List.foldl_cons, List.length_cons]
    omega
theorem fold_take {xs : List Str} {i : Nat} {x : Str} (h : xs[i]? = some x) : (xs.take (i + 1)).foldl addT [] = addT ((xs.take i).foldl addT []) x := by
  rw [List.take_succ, h]
  simp [List.foldl_append]
/-- set.update's loop -/
theorem set_update_strs {I : Addr} {fp wr : List Addr} {G : Array GenState → Array GenState → Prop} {n : Nat} {Pv : Nat → Value → Prop} {St : Nat → Shared → Prop} {R : Result → Shared → Prop}
    (W : WalksS P w A.in1 I fp wr G n Pv St) (S : Addr) (hSf : S ∉ fp) (ks : List Str) (hn : n = ks.length) (hfew : ks.length < 1000) (hval : ∀ i v, Pv i v → ∃ k t, ks[i]? = some k ∧ v = .str k t) :
    ∀ (k i : Nat) (s : Shared), n - i = k → i ≤ n → St i s → SetS w s.heap S ((ks.take i).foldl addT []) →
      (∀ s', Moved (S :: wr) G s s' → SetS w s'.heap S (setL ks) → R (.ok (.ret .none)) s') →
      codeAny (model P w) A (.builtin "set.update.loop" ⟨[.ref S, .ref I], []⟩) R s := by
  have hSw : S ∉ wr := fun h => hSf (W.sub _ h)
  have hsub : ∀ b ∈ wr, b ∈ S :: wr := fun b hb => List.mem_cons_of_mem _ hb
  intro k
  induction k with
  | zero =>
    intro i s hk' hi hst hS hR
    have hin : i = n := by omega
    subst hin
    refine codeAny_builtin F.entry_set_update_loop ?_
    rw [Around.under_plainId F.plain_set_update_loop _]
    show wpAny _ A.in1 (pyNext (.ref I) >>= _) _ _ s
    refine wpAny_bind (W.done s _ _ hst fun s' hm => ?_)
    show wpAny _ A.in1 (ret Value.none) _ _ s'
    have e : ks.take i = ks := List.take_of_length_le (by omega)
    rw [e] at hS
    exact wpAny_pure (hR s' (hm.mono hsub) (hS.at fun o e => hm.heap S o hSw e))
  | succ k ih =>
    intro i s hk' hi hst hS hR
    have hlt : i < n := by omega
    refine codeAny_builtin F.entry_set_update_loop ?_
    rw [Around.under_plainId F.plain_set_update_loop _]
    show wpAny _ A.in1 (pyNext (.ref I) >>= _) _ _ s
    refine wpAny_bind (W.item i s _ _ hlt hst fun v s' hP hst' hm => ?_)
    obtain ⟨x, t, hp, rfl⟩ := hval i v hP
    have hS' : SetS w s'.heap S ((ks.take i).foldl addT []) := hS.at fun o e => hm.heap S o hSw e
    show wpAny _ A.in1 (holding [Value.str x t] (setAdd S (.str x t)) >>= _) _ _ s'
    refine wpAny_bind (wpAny_holding ?_)
    unfold setAdd
    refine wpAny_holding ?_
    refine wpAny_bind ((strKind P w).pyHash (k := x) (strKind_is _ _ _ _) ?_)
    have room : ((ks.take i).foldl addT []).length + 1 < scanBound := by
      have h1 := fold_len (ks.take i) []
      rw [List.length_take] at h1
      have : (1001 : Nat) < scanBound := by decide
      simp only [List.length_nil] at h1
      omega
    refine setS_add_hashed (s := { s' with toks := s'.toks + 1 }) hS' room fun h' b hsb hS2 => ?_
    rw [← fold_take hp] at hS2
    refine wpAny_pure ⟨plainId_quiet F.plain_set_update_loop _, ih (i + 1) _ (by omega) hlt (W.frame _ s' _ _ hst' (Nat.le_succ _) fun b hb o e => ?_) hS2 fun s'' hm'' hS'' => ?_⟩
    · rw [hsb.2 b (fun h : b = S => hSf (by rw [← h]; exact hb))]; exact e
    · refine hR s'' (Moved.trans W.gtrans ((hm.mono hsub).then_heap (Nat.le_succ _) fun b o hb e => ?_) hm'') hS''
      rw [hsb.2 b (fun h : b = S => hb (by rw [h]; exact List.mem_cons_self))]; exact e
set_option maxRecDepth 100000 in
set_option maxHeartbeats 3200000 in
theorem call_set_listT {l : Addr} {items : Array Value} {xs : List Str} {Q : Value → Shared → Prop}
    (hh : A.handled = none) (hl : s.heap.IsList l items) (hi : StrsAre items.toList xs) (hfew : xs.length < 1000)
    (h : ∀ (h' : Heap) (tk : Nat), SetS w h' s.heap.objs.size (setL xs) → (∀ b o, s.heap.get? b = some o → h'.get? b = some o) → Q (.ref s.heap.objs.size) { s with heap := h', toks := tk }) :
    wpAny (model P w) A (call (.type "set") [.ref l]) Q E s := by
  obtain ⟨c, tl, hmro⟩ := F.called_set.mro
  have hmade := F.called_set.made
  have hsub := F.called_set.sub
  refine wpAny_call (codeAny_of_tree ?_)
  show wpAny _ _ (callAny (.type "set") _) _ _ _
  refine wpAny_pure ⟨Code.quiet_builtin _ (by decide +kernel), codeAny_builtin F.entry_type_call ?_⟩
  rw [Around.under_plain (weight_type_call_type "set" [.ref l] []) rfl]
  have h1 := F.called_set.notType
  have h2 := F.called_set.canCreate
  have hct := F.typeCall_set_1 (.ref l)
  repeat (any_goals (first | assumption | wp_step))

  refine codeAny_mono (code_set_led1 (.ref l) (E := E) (Q₁ := fun obj s₁ => obj = .ref s.heap.objs.size ∧ s₁ = { s with heap := s.heap.push { cls := .type "set", dict := none, data := .set #[] 0 (.fresh 0 0 (!w.params.followText "set-order")) } }) ⟨rfl, rfl⟩) fun r s₁ hr => ?_
  cases r with
  | error e => exact hr
  | ok fl =>
    cases fl with
    | ret obj =>
      obtain ⟨rfl, rfl⟩ := hr
      have hS : (s.heap.push { cls := .type "set", dict := none, data := .set #[] 0 (.fresh 0 0 (!w.params.followText "set-order")) }).get? s.heap.objs.size = some { cls := .type "set", dict := none, data := .set #[] 0 (.fresh 0 0 (!w.params.followText "set-order")) } := Heap.get?_push_size _ rfl
      have hT : Shared.TypeIs { s with heap := s.heap.push { cls := .type "set", dict := none, data := .set #[] 0 (.fresh 0 0 (!w.params.followText "set-order")) } } (.ref s.heap.objs.size) "set" := ⟨_, hS, rfl⟩
      have hli := F.called_set.init.lookup
      have hbi := F.called_set.init.bind (.ref s.heap.objs.size)
      repeat (any_goals (first | assumption | wp_step))

      refine codeAny_mono (codeAny_call_builtin (R := wants (fun r s₂ => r = .none ∧ ∃ h' tk, s₂ = { s with heap := h', toks := tk } ∧ SetS w h' s.heap.objs.size (setL xs) ∧
          (∀ b o, s.heap.get? b = some o → h'.get? b = some o)) E) F.called_set.init.plain F.entry_set_init (check_set_init_1 hT ?_)) fun r₂ s₂ hr₂ => ?_
      · obtain ⟨ol, hol, hcl, nl, hdl⟩ := hl
        obtain ⟨ocls, odict, odata, oslots⟩ := ol
        simp only at hcl hdl
        subst hcl; subst hdl
        have hol' : (s.heap.push { cls := .type "set", dict := none, data := .set #[] 0 (.fresh 0 0 (!w.params.followText "set-order")) }).get? l = some { cls := .type "list", dict := odict, data := .seq items nl, slots := oslots } := Heap.get?_push_of_some _ hol
        have hsls := F.sub_list_set
        have hslf := F.sub_list_frozenset
        have hne : (Value.type "list" == Value.type "dict") = false := by decide
        have hl1 : (s.heap.push { cls := .type "set", dict := none, data := .set #[] 0 (.fresh 0 0 (!w.params.followText "set-order")) }).IsList l items := ⟨_, hol', rfl, nl, rfl⟩
        unfold Builtin.«set.__init__» noKeywords Builtin.Frozenset.updateFrom
        generalize hPI : pyIter = PI
        wp_walk
        subst hPI

        refine wpAny_pyIter_list hl1 ?_
        refine wpAny_bind (wpAny_runValue ?_)
        have hlS : l < s.heap.objs.size := Heap.lt_size hol
        have hh3 : A.in1.in1.in1.handled = none := by simp [hh]
        have hneI : l ≠ (s.heap.push { cls := .type "set", dict := none, data := .set #[] 0 (.fresh 0 0 (!w.params.followText "set-order")) }).objs.size := by
          rw [Heap.size_push]; exact Nat.ne_of_lt (Nat.lt_succ_of_lt hlS)
        have hSf : s.heap.objs.size ∉ [(s.heap.push { cls := .type "set", dict := none, data := .set #[] 0 (.fresh 0 0 (!w.params.followText "set-order")) }).objs.size, l] := by
          rw [Heap.size_push]; simp only [List.mem_cons, List.mem_singleton, List.not_mem_nil, or_false, not_or]
          exact ⟨Nat.ne_of_lt (Nat.lt_succ_self _), Nat.ne_of_gt hlS⟩
        have hsz : items.size = xs.length := by rw [← StrsAre.len_eq hi, Array.length_toList]
        have hval : ∀ (i : Nat) (v : Value), items[i]? = some v → ∃ k t, xs[i]? = some k ∧ v = .str k t := fun i v hv => by
          obtain ⟨t, e⟩ := SS.strs_at hi i v (by rw [Array.getElem?_toList]; exact hv)
          have hlt : i < xs.length := by rw [← hsz]; exact (Array.getElem?_eq_some_iff.mp hv).1
          exact ⟨_, t, List.getElem?_eq_getElem hlt, by rw [e, List.getD_eq_getElem?_getD, List.getElem?_eq_getElem hlt]; rfl⟩
        refine set_update_strs ((Walks.list hh3 _ l hneI items).toS) s.heap.objs.size
          hSf xs hsz hfew hval (items.size - 0) 0 _ (by omega) (Nat.zero_le _)
          ⟨⟨_, Heap.get?_push_size _ rfl, rfl, rfl⟩, (hl1.push _)⟩ ?hS0 ?hR
        case hS0 =>
          have hget : ((s.heap.push { cls := .type "set", dict := none, data := .set #[] 0 (.fresh 0 0 (!w.params.followText "set-order")) }).push { cls := .type "list_iterator", data := .fields #[.ref l, .int 0 0] }).get? s.heap.objs.size
              = some { cls := .type "set", dict := none, data := .set #[] 0 (.fresh 0 0 (!w.params.followText "set-order")) } := Heap.get?_push_of_some _ hS
          exact setS_fresh hget
        case hR =>
          intro s' hm hS'
          have kp : ∀ b o, s.heap.get? b = some o → s'.heap.get? b = some o := fun b o e => by
            have hb : b < s.heap.objs.size := Heap.lt_size e
            have hb1 : b ≠ s.heap.objs.size := Nat.ne_of_lt hb
            have hb2 : b ≠ (s.heap.push { cls := .type "set", dict := none, data := .set #[] 0 (.fresh 0 0 (!w.params.followText "set-order")) }).objs.size := by
              rw [Heap.size_push]; exact Nat.ne_of_lt (Nat.lt_succ_of_lt hb)
            exact hm.heap b o (by simp only [List.mem_cons, List.mem_singleton, List.not_mem_nil, or_false, not_or]; exact ⟨hb1, hb2⟩) (Heap.get?_push_of_some _ (Heap.get?_push_of_some _ e))
          obtain ⟨h', g2, d', tk', os'⟩ := s'
          have eg : g2 = s.gens := hm.gens
          have ed : d' = s.drawn := hm.drawn
          have eo : os' = s.os := hm.os
          subst eg; subst ed; subst eo
          show wpAny _ _ _ _ _ _
          refine wpAny_pure ?_
          show wpAny _ _ (ret Value.none) _ _ _
          exact wpAny_pure ⟨rfl, h', tk', rfl, hS', kp⟩

      · cases r₂ with
        | error e => exact hr₂
        | ok fl₂ =>
          cases fl₂ with
          | ret r =>
            obtain ⟨rfl, h', tk, rfl, hS', hk'⟩ := hr₂
            repeat (any_goals (first | assumption | wp_step))
            exact h _ _ hS' hk'
          | _ => exact hr₂.elim
    | _ => exact hr.elim
set_option maxRecDepth 100000 in
set_option maxHeartbeats 3200000 in
theorem call_set_tupT {l : Addr} {items : Array Value} {xs : List Str} {Q : Value → Shared → Prop}
    (hh : A.handled = none) (hl : s.heap.IsTuple l items) (hi : StrsAre items.toList xs) (hfew : xs.length < 1000)
    (h : ∀ (h' : Heap) (tk : Nat), SetS w h' s.heap.objs.size (setL xs) → (∀ b o, s.heap.get? b = some o → h'.get? b = some o) → Q (.ref s.heap.objs.size) { s with heap := h', toks := tk }) :
    wpAny (model P w) A (call (.type "set") [.ref l]) Q E s := by
  obtain ⟨c, tl, hmro⟩ := F.called_set.mro
  have hmade := F.called_set.made
  have hsub := F.called_set.sub
  refine wpAny_call (codeAny_of_tree ?_)
  show wpAny _ _ (callAny (.type "set") _) _ _ _
  refine wpAny_pure ⟨Code.quiet_builtin _ (by decide +kernel), codeAny_builtin F.entry_type_call ?_⟩
  rw [Around.under_plain (weight_type_call_type "set" [.ref l] []) rfl]
  have h1 := F.called_set.notType
  have h2 := F.called_set.canCreate
  have hct := F.typeCall_set_1 (.ref l)
  repeat (any_goals (first | assumption | wp_step))

  refine codeAny_mono (code_set_led1 (.ref l) (E := E) (Q₁ := fun obj s₁ => obj = .ref s.heap.objs.size ∧ s₁ = { s with heap := s.heap.push { cls := .type "set", dict := none, data := .set #[] 0 (.fresh 0 0 (!w.params.followText "set-order")) } }) ⟨rfl, rfl⟩) fun r s₁ hr => ?_
  cases r with
  | error e => exact hr
  | ok fl =>
    cases fl with
    | ret obj =>
      obtain ⟨rfl, rfl⟩ := hr
      have hS : (s.heap.push { cls := .type "set", dict := none, data := .set #[] 0 (.fresh 0 0 (!w.params.followText "set-order")) }).get? s.heap.objs.size = some { cls := .type "set", dict := none, data := .set #[] 0 (.fresh 0 0 (!w.params.followText "set-order")) } := Heap.get?_push_size _ rfl
      have hT : Shared.TypeIs { s with heap := s.heap.push { cls := .type "set", dict := none, data := .set #[] 0 (.fresh 0 0 (!w.params.followText "set-order")) } } (.ref s.heap.objs.size) "set" := ⟨_, hS, rfl⟩
      have hli := F.called_set.init.lookup
      have hbi := F.called_set.init.bind (.ref s.heap.objs.size)
      repeat (any_goals (first | assumption | wp_step))

      refine codeAny_mono (codeAny_call_builtin (R := wants (fun r s₂ => r = .none ∧ ∃ h' tk, s₂ = { s with heap := h', toks := tk } ∧ SetS w h' s.heap.objs.size (setL xs) ∧
          (∀ b o, s.heap.get? b = some o → h'.get? b = some o)) E) F.called_set.init.plain F.entry_set_init (check_set_init_1 hT ?_)) fun r₂ s₂ hr₂ => ?_
      · obtain ⟨ol, hol, hcl, nl, hdl⟩ := hl
        obtain ⟨ocls, odict, odata, oslots⟩ := ol
        simp only at hcl hdl
        subst hcl; subst hdl
        have hol' : (s.heap.push { cls := .type "set", dict := none, data := .set #[] 0 (.fresh 0 0 (!w.params.followText "set-order")) }).get? l = some { cls := .type "tuple", dict := odict, data := .seq items nl, slots := oslots } := Heap.get?_push_of_some _ hol
        have hsls := F.sub_tuple_set
        have hslf := F.sub_tuple_frozenset
        have hne : (Value.type "tuple" == Value.type "dict") = false := by decide
        have hl1 : (s.heap.push { cls := .type "set", dict := none, data := .set #[] 0 (.fresh 0 0 (!w.params.followText "set-order")) }).IsTuple l items := ⟨_, hol', rfl, nl, rfl⟩
        unfold Builtin.«set.__init__» noKeywords Builtin.Frozenset.updateFrom
        generalize hPI : pyIter = PI
        wp_walk
        subst hPI

        refine wpAny_pyIter_tuple hl1 ?_
        refine wpAny_bind (wpAny_runValue ?_)
        have hlS : l < s.heap.objs.size := Heap.lt_size hol
        have hh3 : A.in1.in1.in1.handled = none := by simp [hh]
        have hneI : l ≠ (s.heap.push { cls := .type "set", dict := none, data := .set #[] 0 (.fresh 0 0 (!w.params.followText "set-order")) }).objs.size := by
          rw [Heap.size_push]; exact Nat.ne_of_lt (Nat.lt_succ_of_lt hlS)
        have hSf : s.heap.objs.size ∉ [(s.heap.push { cls := .type "set", dict := none, data := .set #[] 0 (.fresh 0 0 (!w.params.followText "set-order")) }).objs.size, l] := by
          rw [Heap.size_push]; simp only [List.mem_cons, List.mem_singleton, List.not_mem_nil, or_false, not_or]
          exact ⟨Nat.ne_of_lt (Nat.lt_succ_self _), Nat.ne_of_gt hlS⟩
        have hsz : items.size = xs.length := by rw [← StrsAre.len_eq hi, Array.length_toList]
        have hval : ∀ (i : Nat) (v : Value), items[i]? = some v → ∃ k t, xs[i]? = some k ∧ v = .str k t := fun i v hv => by
          obtain ⟨t, e⟩ := SS.strs_at hi i v (by rw [Array.getElem?_toList]; exact hv)
          have hlt : i < xs.length := by rw [← hsz]; exact (Array.getElem?_eq_some_iff.mp hv).1
          exact ⟨_, t, List.getElem?_eq_getElem hlt, by rw [e, List.getD_eq_getElem?_getD, List.getElem?_eq_getElem hlt]; rfl⟩
        refine set_update_strs ((Walks.tuple hh3 _ l hneI items).toS) s.heap.objs.size
          hSf xs hsz hfew hval (items.size - 0) 0 _ (by omega) (Nat.zero_le _)
          ⟨⟨_, Heap.get?_push_size _ rfl, rfl, rfl⟩, (hl1.push _)⟩ ?hS0 ?hR
        case hS0 =>
          have hget : ((s.heap.push { cls := .type "set", dict := none, data := .set #[] 0 (.fresh 0 0 (!w.params.followText "set-order")) }).push { cls := .type "tuple_iterator", data := .fields #[.ref l, .int 0 0] }).get? s.heap.objs.size
              = some { cls := .type "set", dict := none, data := .set #[] 0 (.fresh 0 0 (!w.params.followText "set-order")) } := Heap.get?_push_of_some _ hS
          exact setS_fresh hget
        case hR =>
          intro s' hm hS'
          have kp : ∀ b o, s.heap.get? b = some o → s'.heap.get? b = some o := fun b o e => by
            have hb : b < s.heap.objs.size := Heap.lt_size e
            have hb1 : b ≠ s.heap.objs.size := Nat.ne_of_lt hb
            have hb2 : b ≠ (s.heap.push { cls := .type "set", dict := none, data := .set #[] 0 (.fresh 0 0 (!w.params.followText "set-order")) }).objs.size := by
              rw [Heap.size_push]; exact Nat.ne_of_lt (Nat.lt_succ_of_lt hb)
            exact hm.heap b o (by simp only [List.mem_cons, List.mem_singleton, List.not_mem_nil, or_false, not_or]; exact ⟨hb1, hb2⟩) (Heap.get?_push_of_some _ (Heap.get?_push_of_some _ e))
          obtain ⟨h', g2, d', tk', os'⟩ := s'
          have eg : g2 = s.gens := hm.gens
          have ed : d' = s.drawn := hm.drawn
          have eo : os' = s.os := hm.os
          subst eg; subst ed; subst eo
          show wpAny _ _ _ _ _ _
          refine wpAny_pure ?_
          show wpAny _ _ (ret Value.none) _ _ _
          exact wpAny_pure ⟨rfl, h', tk', rfl, hS', kp⟩

      · cases r₂ with
        | error e => exact hr₂
        | ok fl₂ =>
          cases fl₂ with
          | ret r =>
            obtain ⟨rfl, h', tk, rfl, hS', hk'⟩ := hr₂
            repeat (any_goals (first | assumption | wp_step))
            exact h _ _ hS' hk'
          | _ => exact hr₂.elim
    | _ => exact hr.elim
/-! ### sorted(set of texts) -/
theorem sorted_setS {L : List Str} {Q : Value → Shared → Prop} (R : SetS w s.heap a L) (hh : A.handled = none) (hfew : L.length < 1000) (hu : A.units + 60 < cLine)
    (hQ : ∀ s' p (out : List Value) (c : Nat), (∀ b o, s.heap.get? b = some o → s'.heap.get? b = some o) → s'.gens = s.gens → s'.os = s.os → s.heap.objs.size ≤ p →
      s'.heap.get? p = some (seqObj "list" out.toArray c) → (∃ K : List Str, K.Perm L ∧ PySem.W.EachIs (fun v (k : Str) => ∃ t, v = Value.str k t) out (K.mergeSort (PySem.W.dataLe false fun k : Str => PyData.str k))) → Q (.ref p) s') :
    wpAny (model P w) A (call (.builtin "sorted") [.ref a]) Q E s := by
  obtain ⟨o, es, ep, t, ho, hex, hd, g, nd, hm, hb, hf, hr, hl⟩ := R
  refine Calls.call_function_entry kind_sorted plain_sorted entry_sorted (args_sorted1 _) ?_
  unfold Builtin.«sorted»
  refine wpAny_bind (m := checkCount "sorted" 1 1 _) (wpAny_pure ?_)
  refine wpAny_bind (collect_set (A := A.in1) hh ⟨o, ho, hex.1, hd⟩ hf hb hr hl fun s1 vs k1 hz g1 o1 pm => ?_)
  have hvl : vs.length = L.length := by rw [pm.length_eq, List.length_map, Array.length_toList, ← hm.length_eq, List.length_map, Array.length_toList]
  have hI : ∃ K : List Str, K.Perm L ∧ PySem.W.EachIs (fun v (k : Str) => ∃ t, v = Value.str k t) vs K := by
    have hv : ∀ v ∈ vs, ∃ k tk, v = Value.str k tk := fun v hv => by
      obtain ⟨e, he, q⟩ := List.mem_map.mp (pm.mem_iff.mp hv)
      obtain ⟨k, tk, h1, _⟩ := g e he
      exact ⟨k, tk, by rw [← q]; exact h1⟩
    refine ⟨vs.map fun v => strOf (0, v), ?_, ?_⟩
    · have q := pm.map fun v => strOf (0, v)
      rw [List.map_map] at q
      exact q.trans (by
        have e : (fun v => strOf (0, v)) ∘ (fun e : Int × Value => e.2) = strOf := by funext e; rfl
        have e2 : ((fun v => strOf (0, v)) ∘ fun (x : Int × Value) => x.2) = strOf := e
        rw [e2]; exact hm)
    · clear hvl pm
      induction vs with
      | nil => exact .nil
      | cons v vs ih =>
        obtain ⟨k, tk, rfl⟩ := hv v List.mem_cons_self
        exact .cons ⟨tk, rfl⟩ (ih fun u hu => hv u (List.mem_cons_of_mem _ hu))
  obtain ⟨K, pK, eK⟩ := hI
  refine wpAny_bind (wpAny_newList ?_ (by rw [hvl, sizeLine_eq]; omega))
  have hoL : (s1.heap.push (seqObj "list" vs.toArray 0)).get? s1.heap.objs.size = some (seqObj "list" vs.toArray 0) := Heap.get?_push_size _ rfl
  refine wpAny_bind (wpAny_holding (PySem.W.list_sort_data (enc := fun k : Str => PyData.str k) (R := fun v (k : Str) => ∃ t, v = Value.str k t) hoL eK ?_ ?_ ?_ ?_ ?_ fun out hlo eo => ?_))
  · exact eK.mono fun v b ⟨t, e⟩ => ⟨_, by rw [e]; exact .str b t, by simp⟩
  · exact PySem.W.AllAlike.of fun _ _ => rfl
  · exact PySem.W.Sortable.others fun b => ⟨by simp, by simp⟩
  · rw [pK.length_eq, sizeLine_eq]; omega
  · intro b _
    show A.in1.units + 1 + 0 < cLine
    have : A.in1.units = A.units + 1 := rfl
    omega
  · obtain ⟨c, hc⟩ := sortedHeap_at (vs := vs) (out := out.toArray) hoL
    refine wpAny_pure ⟨_, rfl, hQ _ s1.heap.objs.size out c (fun b u e => ?_) g1 o1 hz hc ⟨K, pK, eo⟩⟩
    have q := k1 b u e
    have hlt := Heap.lt_size q
    show (sortedHeap (s1.heap.push (seqObj "list" vs.toArray 0)) s1.heap.objs.size vs out.toArray).get? b = some u
    rw [sortedHeap_old (Nat.ne_of_lt hlt) (by rw [size_push']; exact Nat.lt_succ_of_lt hlt)]
    exact Heap.get?_push_of_some _ q
end
end Ev
set_option Elab.async false
set_option linter.all false
set_option maxRecDepth 100000
set_option maxHeartbeats 4000000
namespace Ev
open PySem PySem.Spec PyProof.Rows L2 HT
section
variable {prog : Program} {w : World} {A : Around} {E : Value → Shared → Prop} {s : Shared}
theorem adjust_rev (n : Nat) : Builtin.Slice.sliceAdjust none none (-1) (n : Int) = ((n : Int) - 1, -1) := by
  unfold Builtin.Slice.sliceAdjust
  simp
theorem places_rev (n : Nat) : Builtin.Slice.slicePlaces ((n : Int) - 1) (-1) (-1) = n := by
  unfold Builtin.Slice.slicePlaces
  have h1 : ¬ ((-1 : Int) > 0) := by omega
  simp only [h1, if_false]
  split
  · rw [show (- -1 : Int) = 1 by decide, Int.ediv_one]; omega
  · omega
theorem sliceApplied_rev {sl : Addr} {vs : Value} {n : Nat} {Q : Int × Int × Nat → Shared → Prop} (hs : s.heap.IsSliceOf sl .none .none vs) (ps : IsPart vs (some (-1)))
    (h : Q ((n : Int) - 1, -1, n) s) : wpAny (model prog w) A (Builtin.Slice.sliceApplied (.ref sl) (pure (n : Int))) Q E s := by
  obtain ⟨os, hos, hcs, hds⟩ := id hs
  unfold Builtin.Slice.sliceApplied Builtin.Slice.sliceFields
  refine wpAny_bind (wpAny_bind (wpAny_field hos hds (x := .none) rfl (wpAny_bind (wpAny_field hos hds (x := .none) rfl (wpAny_bind (wpAny_field hos hds (x := vs) rfl (wpAny_pure ?_)))))))
  refine wpAny_bind (slicePart_ ps ?_)
  show wpAny _ _ (if ((-1 : Int) == 0) = true then _ else _) _ _ s
  rw [if_neg (by decide)]
  refine wpAny_bind (slicePart_none (wpAny_bind (slicePart_none (wpAny_bind (wpAny_pure ?_)))))
  show wpAny _ _ (match Builtin.Slice.sliceAdjust none none (-1) (n : Int) with | (lo, hi) => pure (lo, (-1 : Int), Builtin.Slice.slicePlaces lo hi (-1))) _ _ s
  rw [adjust_rev n]
  show wpAny _ _ (pure ((n : Int) - 1, (-1 : Int), Builtin.Slice.slicePlaces ((n : Int) - 1) (-1) (-1))) _ _ s
  rw [places_rev]
  exact wpAny_pure h
theorem fm_congr {α β : Type} {f g : α → Option β} : ∀ {l : List α}, (∀ x ∈ l, f x = g x) → l.filterMap f = l.filterMap g
  | [], _ => rfl
  | x :: l, h => by
    have h1 := h x List.mem_cons_self
    have h2 := fm_congr (l := l) fun y hy => h y (List.mem_cons_of_mem _ hy)
    rw [List.filterMap_cons, List.filterMap_cons, h1, h2]
theorem pick_rev (xs : Array Value) : ((List.range xs.size).filterMap fun (m : Nat) => xs[(((xs.size : Int) - 1) + (m : Int) * (-1)).toNat]?).toArray = xs.toList.reverse.toArray := by
  have e : ∀ m ∈ List.range xs.size, xs[(((xs.size : Int) - 1) + (m : Int) * (-1)).toNat]? = xs[xs.size - 1 - m]? := by
    intro m hm
    have := List.mem_range.mp hm
    have : (((xs.size : Int) - 1) + (m : Int) * (-1)).toNat = xs.size - 1 - m := by omega
    rw [this]
  rw [fm_congr e]
  have e2 : (fun m => xs[xs.size - 1 - m]?) = (fun i => xs[i]?) ∘ fun k => xs.size - 1 - k := rfl
  rw [e2, ← List.filterMap_map, PySem.W.krv_range, List.filterMap_reverse, PySem.W.krv_all]
theorem getItem_tuple_rev {t sl : Addr} {items : Array Value} {vs : Value} {Q : Value → Shared → Prop} (ht : IsTup s.heap t items) (hs : s.heap.IsSliceOf sl .none .none vs) (ps : IsPart vs (some (-1)))
    (h : Q (.ref s.heap.objs.size) { s with heap := s.heap.push { cls := .type "tuple", data := .seq items.toList.reverse.toArray } })
    (hsz : items.size ≤ sizeLine) : wpAny (model prog w) A (getItem (.ref t) (.ref sl)) Q E s := by
  have htake : sizeOk (.seq items.toList.reverse.toArray) := by
    show items.toList.reverse.toArray.size ≤ sizeLine
    rw [List.size_toArray, List.length_reverse, Array.length_toList]
    exact hsz
  obtain ⟨os, hos, hcs, hds⟩ := id hs
  have hTs : s.TypeIs (.ref sl) "slice" := ⟨os, hos, hcs⟩
  unfold getItem
  try with_reducible refine wpAny_holding ?_
  first | refine wpAny_bind (wpAny_pure ?_) | skip
  refine wpAny_bind (wpAny_sequenceKey ht.typeIs (by decide) ?_)
  refine wpAny_bind (wpAny_callSpecial?_slot (name := Str.ofString "__getitem__") ht.typeIs PyProof.Rows.slot_tuple_getitem
    (wpAny_call_entry PyProof.Rows.slot_tuple_getitem ht.typeIs entry_tuple_getitem ?_ (args_tuple_getitem _ _)))
  show wpAny _ _ (Builtin.Tuple.tupleItemsOf (.ref t) >>= _) _ _ s
  refine wpAny_bind (tupleItemsOf_ ht ?_)
  refine wpAny_bind (wpAny_typeOf hTs ?_)
  rw [if_pos (by decide)]
  refine wpAny_bind (sliceApplied_rev (n := items.size) hs ps ?_)
  have hno : ¬ ((((items.size : Int) - 1) == 0 && (-1 : Int) == 1 && items.size == items.size) = true) := by
    intro q
    rw [Bool.and_eq_true, Bool.and_eq_true] at q
    exact absurd q.1.2 (by decide)
  show wpAny _ _ (if (((items.size : Int) - 1) == 0 && (-1 : Int) == 1 && items.size == items.size) = true then _ else _) _ _ s
  rw [if_neg hno, pick_rev]
  first
    | exact wpAny_bind (m := Builtin.Tuple.tupleExact _) (wpAny_newObj_type (wpAny_pure ⟨_, rfl, wpAny_pure h⟩) htake)
    | exact wpAny_bind (m := Builtin.Tuple.tupleExact _) (wpAny_newObj_type (wpAny_bind (wpAny_pure (wpAny_pure ⟨_, rfl, wpAny_pure h⟩))) htake)
    | exact wpAny_bind (wpAny_bind (m := Builtin.Tuple.tupleExact _) (wpAny_newObj_type (wpAny_pure (wpAny_pure ⟨_, rfl, wpAny_pure h⟩)) htake))
    | exact wpAny_bind (wpAny_bind (m := Builtin.Tuple.tupleExact _) (wpAny_newObj_type (wpAny_pure ⟨_, rfl, wpAny_pure h⟩) htake))
end
section
variable {X : Cx}
/-- xs[::-1] of a list, a tuple -/
def tRevD (K : PySem.W.Frag) (te : TE) : TE := fun σ H Q => te σ H fun x H1 => ∃ a xs, x = .ref a ∧ ((SqL K H1 a xs ∧ ∀ p, H1 p = none → Q (.ref p) (upd H1 p (.lst xs.reverse))) ∨ (SqT K H1 a xs ∧ ∀ p, H1 p = none → Q (.ref p) (upd H1 p (.tup xs.reverse))))
theorem pe_revD {e : Expr} {te : TE} {k : Nat} {p1 p2 p3 pos : Pos} (he : PE X e te) : PE X (.Subscript e (.Slice none none (some (.UnaryOp .USub (.Constant (.int 1) k p1) p2)) p3) pos) (tRevD X.K te) := by
  refine ⟨fun pins s σ H Q I h => ?_⟩
  refine Subscript_ (thn (he.run pins s σ H _ I h) fun v s1 ⟨x, H1, I1, r1, q1⟩ => ?_)
  obtain ⟨a, xs, ex, q1⟩ := q1
  subst ex
  cases r1
  have hst : PO X (some (.UnaryOp .USub (.Constant (.int 1) k p1) p2)) (tPart (tUn (rU fun i => .int (-i)) (tC (.int 1)))) := po_some (pe_un un_neg pe_int)
  refine wpAny_Slice (thn (po_none.run pins s1 σ H1 (fun o H2 => o = none ∧ H2 = H1) I1 ⟨rfl, rfl⟩) fun vl s2 ⟨l, H2, I2, pl, el, e2⟩ => ?_)
  subst el e2
  refine thn (po_none.run pins s2 σ H2 (fun o H3 => o = none ∧ H3 = H2) I2 ⟨rfl, rfl⟩) fun vu s3 ⟨u, H3, I3, pu, eu, e3⟩ => ?_
  subst eu e3
  refine thn (hst.run pins s3 σ H3 (fun o H4 => o = some (-1) ∧ H4 = H3) I3 ⟨1, rfl, -1, rfl, rfl, rfl⟩) fun vs s4 ⟨o, H4, I4, ps, eo, e4⟩ => ?_
  subst eo e4
  have I5 : Inv X pins σ H4 { s4 with heap := s4.heap.push { cls := .type "slice", data := .fields #[vl, vu, vs] } } := I4.kept (t' := s4.toks) fun b ob q => Heap.get?_push_of_some _ q
  show wpAny (model X.prog X.w) X.A (subscriptTail e (.Slice none none (some (.UnaryOp .USub (.Constant (.int 1) k p1) p2)) p3) (.ref a) (.ref s4.heap.objs.size)) (EP X pins σ Q) X.xe { s4 with heap := s4.heap.push { cls := .type "slice", data := .fields #[vl, vu, vs] } }
  rcases q1 with ⟨hx, q⟩ | ⟨hx, q⟩
  · obtain ⟨its, r, ht, hz⟩ := I5.list hx
    have hlen := r.length
    refine tail_any (ops := [.ref a, .ref s4.heap.objs.size]) ht.isList.typeIs (PySem.slot_list_getitem.lookup) ?_ (by with_unfolding_all rfl)
    refine wpAny_getItem_list_slice ht.isList (Heap.IsSliceOf.new _ vl vu vs) pl pu ps (by decide) ?_ (by rw [List.size_toArray]; omega)
    rw [PySem.W.krv_pick]
    refine ⟨.ref _, _, I5.laid (t' := s4.toks) (o := .lst xs.reverse) (fun b ob q => Heap.get?_push_of_some _ q) (Nat.le_refl _) ?_, rfl, q _ (I5.hok.fresh (Nat.le_refl _))⟩
    exact ⟨by rw [List.length_reverse]; exact hz, _, 0, r.reverse, Heap.get?_push_size _ rfl⟩
  · obtain ⟨its, r, ht, hz⟩ := I5.tuple hx
    have hlen := r.length
    cases pl
    cases pu
    refine tail_any (ops := [.ref a, .ref s4.heap.objs.size]) ht.typeIs (PyProof.Rows.slot_tuple_getitem.lookup) ?_ (by with_unfolding_all rfl)
    refine getItem_tuple_rev ht (Heap.IsSliceOf.new _ .none .none vs) ps ?_ (by rw [List.size_toArray]; omega)
    refine ⟨.ref _, _, I5.laid (t' := s4.toks) (o := .tup xs.reverse) (fun b ob q => Heap.get?_push_of_some _ q) (Nat.le_refl _) ?_, rfl, q _ (I5.hok.fresh (Nat.le_refl _))⟩
    exact ⟨by rw [List.length_reverse]; exact hz, _, r.reverse, IsTup.new _ _⟩
end
end Ev
set_option Elab.async false
set_option linter.all false
set_option maxRecDepth 100000
set_option maxHeartbeats 4000000
namespace PySem.AutoSeq1
theorem extend_tup (l : Addr) (items : Array Value) (n : Nat) (b : Addr) (items2 : Array Value) (n2 : Nat) (od : Option Addr) (osl : Array (Option Value)) (hs0 : ¬(!items.isEmpty && Builtin.List.listTooLong (items.size + items2.size)) = true) (hs1 : items.size ≤ sizeLine) (hs2 : items.size + items2.size ≤ sizeLine + 1 := by seq_fits) :
    Meets (Builtin.«list.extend» ⟨[.ref l, .ref b], []⟩) (fun _ R s => s.heap.get? l = some { cls := .type "list", dict := none, data := .seq items n, slots := #[] } ∧ s.heap.get? b = some { cls := .type "tuple", dict := od, data := .seq items2 n2, slots := osl } ∧ R (.ok (.ret Value.none)) { s with heap := s.heap.update l (Obj.mapSeq fun x => x ++ items2), toks := s.toks }) :=
  .of_wp fun prog w A R s h => by
    obtain ⟨hp, g, d, tk, os⟩ := s; obtain ⟨hl, hb, h⟩ := h; have f1 := idx_int; have f2 := sub_tuple_tuple; have f3 := sub_list_list; have f4 := sub_tuple_list; have f5 := sub_list_tuple
    have hz' : (items ++ items2).size ≤ sizeLine + 1 := by rw [Array.size_append]; exact hs2
    wp_walk using (wpAny_updateSeq hl rfl (hz := hs1) (_hz' := hz')), wpAny_loadPart' hl, wpAny_loadPart' hb; exact ⟨_, rfl, h⟩
theorem extend_lst (l : Addr) (items : Array Value) (n : Nat) (b : Addr) (items2 : Array Value) (n2 : Nat) (od : Option Addr) (osl : Array (Option Value)) (hs0 : ¬(!items.isEmpty && Builtin.List.listTooLong (items.size + items2.size)) = true) (hs1 : items.size ≤ sizeLine) (hs2 : items.size + items2.size ≤ sizeLine + 1 := by seq_fits) :
    Meets (Builtin.«list.extend» ⟨[.ref l, .ref b], []⟩) (fun _ R s => s.heap.get? l = some { cls := .type "list", dict := none, data := .seq items n, slots := #[] } ∧ s.heap.get? b = some { cls := .type "list", dict := od, data := .seq items2 n2, slots := osl } ∧ R (.ok (.ret Value.none)) { s with heap := s.heap.update l (Obj.mapSeq fun x => x ++ items2), toks := s.toks }) :=
  .of_wp fun prog w A R s h => by
    obtain ⟨hp, g, d, tk, os⟩ := s; obtain ⟨hl, hb, h⟩ := h; have f1 := idx_int; have f2 := sub_tuple_tuple; have f3 := sub_list_list; have f4 := sub_tuple_list; have f5 := sub_list_tuple
    have hz' : (items ++ items2).size ≤ sizeLine + 1 := by rw [Array.size_append]; exact hs2
    wp_walk using (wpAny_updateSeq hl rfl (hz := hs1) (_hz' := hz')), wpAny_loadPart' hl, wpAny_loadPart' hb; exact ⟨_, rfl, h⟩
end PySem.AutoSeq1
namespace Ev
open PySem PySem.Spec PyProof.Rows L2
variable {X : Cx}
def rExtD (K : PySem.W.Frag) : V → List V → Hp → VK → Prop := fun x vs H Q => ∃ l b xs zs, x = .ref l ∧ vs = [.ref b] ∧ H l = some (.lst xs) ∧ (SqT K H b zs ∨ SqL K H b zs) ∧ xs.length + zs.length ≤ sizeLine ∧ Q .non (upd H l (.lst (xs ++ zs)))
theorem mt_extD : MtM X "list.extend" (rExtD X.K) := by
  intro pins s σ H x vs v us Q I rx rv h
  obtain ⟨l, b, xs, zs, rfl, rfl, hH, hB, hz, q⟩ := h
  cases rx
  obtain ⟨u, rfl, ru⟩ := rv.one
  cases ru
  obtain ⟨z, its, n, r, hl, e⟩ := I.lstM hH
  rcases hB with hB | hB
  · obtain ⟨its2, r2, ⟨o, e2, ec, n2, ed⟩, z2⟩ := I.tuple hB
    obtain ⟨oc, od, oda, osl⟩ := o
    simp only at ec ed
    subst ec ed
    have hl2 := r2.length
    have hsz : its.toArray.size + its2.toArray.size ≤ sizeLine := by rw [List.size_toArray, List.size_toArray]; omega
    have hlong : ¬ (!its.toArray.isEmpty && Builtin.List.listTooLong (its.toArray.size + its2.toArray.size)) = true := by
      rw [notLongL hsz, Bool.and_false]
      exact Bool.false_ne_true
    refine call_meets F.slot_list_extend ⟨_, e, rfl⟩ F.entry_list_extend (F.args_list_extend_2 _ _)
      (AutoSeq1.extend_tup l its.toArray n b its2.toArray n2 od osl hlong (by rw [List.size_toArray]; omega) (by omega)) ⟨e, e2, ?_⟩
    refine ⟨.non, _, I.lset (its' := its ++ its2) hH e (by simp) (r.append r2) ?_, rfl, q⟩
    rw [List.length_append]
    omega
  · obtain ⟨its2, r2, ⟨o, n2, e2, ec, ed0, ed⟩, z2⟩ := I.list hB
    obtain ⟨oc, od, oda, osl⟩ := o
    simp only at ec ed ed0
    subst ec ed
    have hl2 := r2.length
    have hsz : its.toArray.size + its2.toArray.size ≤ sizeLine := by rw [List.size_toArray, List.size_toArray]; omega
    have hlong : ¬ (!its.toArray.isEmpty && Builtin.List.listTooLong (its.toArray.size + its2.toArray.size)) = true := by
      rw [notLongL hsz, Bool.and_false]
      exact Bool.false_ne_true
    refine call_meets F.slot_list_extend ⟨_, e, rfl⟩ F.entry_list_extend (F.args_list_extend_2 _ _)
      (AutoSeq1.extend_lst l its.toArray n b its2.toArray n2 od osl hlong (by rw [List.size_toArray]; omega) (by omega)) ⟨e, e2, ?_⟩
    refine ⟨.non, _, I.lset (its' := its ++ its2) hH e (by simp) (r.append r2) ?_, rfl, q⟩
    rw [List.length_append]
    omega
end Ev
set_option Elab.async false
set_option linter.all false
set_option maxRecDepth 100000
set_option maxHeartbeats 4000000
namespace Ev
open PySem PySem.Spec PyProof.Rows L2
/-! ### sorted(set(xs)), texts -/
def leT (a b : Str) : Bool := PySem.W.dataLe false (fun k : Str => PyData.str k) a b
theorem leT_eq (a b : Str) : leT a b = decide (a.cps.toList ≤ b.cps.toList) := by
  have := PySem.W.dataLe_str (fun k : Str => k)
  exact congrFun (congrFun this a) b
theorem leT_trans (a b c : Str) (h : leT a b = true) (k : leT b c = true) : leT a c = true := by
  rw [leT_eq, decide_eq_true_eq] at *
  exact List.le_trans h k
theorem leT_total (a b : Str) : (leT a b || leT b a) = true := by
  rw [leT_eq, leT_eq, Bool.or_eq_true, decide_eq_true_eq, decide_eq_true_eq]
  exact List.le_total _ _
theorem leT_anti (a b : Str) (h : leT a b = true) (k : leT b a = true) : a = b := by
  rw [leT_eq, decide_eq_true_eq] at *
  exact PySem.W.str_of_cps (List.le_antisymm h k)
def sortT (L : List Str) : List Str := L.mergeSort leT
theorem sortT_pw (L : List Str) : (sortT L).Pairwise fun a b => leT a b = true := List.pairwise_mergeSort leT_trans leT_total L
theorem sortT_perm {K L : List Str} (h : K.Perm L) : sortT K = sortT L :=
  List.Perm.eq_of_pairwise (fun a b _ _ => leT_anti a b) (sortT_pw K) (sortT_pw L) (((List.mergeSort_perm K leT).trans h).trans (List.mergeSort_perm L leT).symm)
theorem strs_of_vals : ∀ {xs : List Str} {us : List Value}, Vals (xs.map V.str) us → StrsAre us xs
  | [], _, .nil => .nil
  | x :: xs, _, .cons r t => by
    obtain ⟨tk, rfl⟩ := r
    exact .cons x tk (strs_of_vals t)
theorem vals_of_each : ∀ {us : List Value} {xs : List Str}, PySem.W.EachIs (fun v (k : Str) => ∃ t, v = Value.str k t) us xs → Vals (xs.map V.str) us
  | _, _, .nil => .nil
  | _, _, .cons h t => .cons h (vals_of_each t)
section
variable {X : Cx}
def tSrts (K : PySem.W.Frag) (ta : TE) : TE := fun σ H Q => ta σ H fun x H1 => ∃ (a : Addr) (xs : List Str), x = V.ref a ∧ (SqL K H1 a (xs.map V.str) ∨ SqT K H1 a (xs.map V.str)) ∧ xs.length < 1000 ∧ ∀ p, H1 p = none → Q (.ref p) (upd H1 p (.lst ((sortT (setL xs)).map V.str)))
theorem pe_srts {a : Expr} {ta : TE} {p p2 q pos : Pos} (hc : X.calm = true) (hu : X.A.units + 65 < cLine) (hg : Gl X "sorted") (hm : X.mg "sorted" = none) (hg2 : Gl X "set") (hm2 : X.mg "set" = none) (ha : PE X a ta)
    (na : starEach [a] X.env = (false, eval a X.env) :: starEach [] X.env := by rfl) : PE X (.Call (.Name "sorted" p) [.Call (.Name "set" p2) [a] [] q] [] pos) (tSrts X.K ta) := by
  refine ⟨fun pins s σ H Q I h => ?_⟩
  refine Call_ (ld_blt I hg hm (show bootBuiltins (Str.ofString "sorted") = some (.builtin "sorted") from rfl) ?_)
  refine PyProof.Rows.callWith_builtin1 (PyProof.Rows.args_cons ?_ rfl) rfl rfl
  refine Call_ (ld_blt I hg2 hm2 PyProof.Rows.boot_set ?_)
  refine PyProof.Rows.callWith_type1 (PyProof.Rows.args_cons (thn (ha.run pins s σ H _ I h) fun v s1 ⟨x, H1, I1, r1, q1⟩ => PyProof.Rows.args_nil ?_) na) na rfl
  obtain ⟨l, xs, rfl, hq, h1, q1⟩ := q1
  cases r1
  have fin : ∀ (s2 : Shared) (a : Addr), Inv X pins σ H1 s2 → SetS X.w s2.heap a (setL xs) → wpAny (model X.prog X.w) X.A (call (.builtin "sorted") [.ref a]) (EP X pins σ Q) X.xe s2 := fun s2 a I2 hS => by
    have hfew : (setL xs).length < 1000 := by
      have := fold_len xs []
      simp only [List.length_nil] at this
      exact Nat.lt_of_le_of_lt this (by omega)
    refine sorted_setS hS (I2.ok.hd hc) hfew (by omega) fun s' p out c k g o hp hg ⟨K, pK, eo⟩ => ?_
    have e0 : K.mergeSort (PySem.W.dataLe false fun k : Str => PyData.str k) = sortT (setL xs) := sortT_perm pK
    rw [e0] at eo
    have hv := vals_of_each eo
    have hlen : ((sortT (setL xs)).map V.str).length ≤ sizeLine := by
      rw [List.length_map]
      have : (sortT (setL xs)).length = (setL xs).length := List.length_mergeSort _
      rw [this, sizeLine_eq]; omega
    have hn : H1 p = none := I2.hok.fresh hp
    have J : Inv X pins σ (upd H1 p (.lst ((sortT (setL xs)).map V.str))) { s2 with heap := s'.heap, gens := s'.gens, drawn := s'.drawn, toks := s'.toks } :=
      I2.call (ch := []) (Un.laid k hp hn) (I2.hok.laid k hp ⟨hlen, out, c, hv, hg⟩) (by rw [g]; exact I2.bare) (fun _ z => nomatch z)
    have e : s' = { s2 with heap := s'.heap, gens := s'.gens, drawn := s'.drawn, toks := s'.toks } := by
      cases s'
      cases s2
      cases o
      rfl
    rw [e]
    exact ⟨.ref p, _, J, rfl, q1 p hn⟩
  have key : ∀ (h' : Heap) (tk : Nat), SetS X.w h' s1.heap.objs.size (setL xs) → (∀ b o, s1.heap.get? b = some o → h'.get? b = some o) →
      wpAny (model X.prog X.w) X.A (call (.builtin "sorted") [.ref s1.heap.objs.size]) (EP X pins σ Q) X.xe { s1 with heap := h', toks := tk } := fun h' tk hS hk => fin _ _ (I1.kept hk) hS
  rcases hq with hq | hq
  · obtain ⟨its, r, pl, hz⟩ := I1.list hq
    exact call_set_listT (I1.ok.hd hc) pl.isList (by simpa using strs_of_vals r) h1 fun h' tk hS hk => PyProof.Rows.args_nil (key h' tk hS hk)
  · obtain ⟨its, r, pl, hz⟩ := I1.tuple hq
    exact call_set_tupT (I1.ok.hd hc) pl (by simpa using strs_of_vals r) h1 fun h' tk hS hk => PyProof.Rows.args_nil (key h' tk hS hk)
end
end Ev
set_option Elab.async false
set_option linter.all false
set_option maxRecDepth 100000
set_option maxHeartbeats 4000000
namespace Ev
open PySem PySem.Spec PyProof.Rows L2
/-! ### the language -/
inductive T where
  | nm (i : Nat) | nil | cons (t r : T)
mutual
inductive M where
  | var (i : Nat) | glob (x : Str) | non | bl (b : Bool) | int (i : Int) | str (s : Str)
  | bin (op : Operator) (a b : M) | neg (a : M)
  | cmp (op : CmpOp) (a b : M) | chain (op op' : CmpOp) (a b c : M)
  | and2 (a b : M) | or2 (a b : M) | not (a : M) | ite (c a b : M)
  | tup (es : Ms) | lst (es : Ms) | nlst | dic (ks : List Str) (vs : Ms) | ndic
  | dget (d k : M) | sub (a i : M) | slc (a lo hi : M) | absent
  | bi (b : Bi) (es : Ms) | isi (a : M) (t : Ty) | mth (m : Mt) (o : M) (es : Ms)
  | callP (f : Str) (es : Ms) | callS (f : Str) (es : Ms)
  | tix (x : Str) (e : M) | lstc (es : Ms) | addc (a b : M) | kin (neg : Bool) (k d : M)
  | new (c : Str) (es : Ms) | meth (o : M) (m : Str) (es : Ms)
  | mk (c : Str) (es : Ms) | fld (o : M) (f : Str) | isx (a : M) (y : Str)
  | srts (a : M) | rev (a : M)
  | lc (own : List Nat) (t : T) (it : I) (c e : M)
inductive Ms where
  | nil | cons (e : M) (r : Ms)
inductive I where
  | it (e : M) | rng1 (a : M) | rng2 (a b : M) | rng3 (a b c : M) | enm (e : M) | zip (a b : M)
end
abbrev Ro := List (Option W)
/-- what names of the module are worth: constants, defs on data, defs on the store -/
structure Gt where
  con : Str → Option D
  fp : Str → Option (List D → Option (Except Xv D))
  fs : Str → Option (List W → Store → R W)
  /-- classes of the program: made, methods, fields -/
  ini : Str → Option (List W → Store → R W)
  meth : Str → Str → Option (List W → Store → R W)
  cfl : Str → Str → Bool
  tix : Str → Option (List Str)
  mke : Str → Option Mk
  sub : Str → Str → Option Bool
  exm : Str → Str → Option Bool
  fld : Str → Str → Bool
def srtsL (ds : List D) : Option D := (strsOf ds).bind fun xs => if xs.length < 1000 then some (.lst ((sortT (setL xs)).map D.str)) else none
def srtsD : D → Option D
  | .lst ds => srtsL ds
  | .tup ds => srtsL ds
  | _ => none
def revD : D → Option D
  | .lst ds => some (.lst ds.reverse)
  | .tup ds => some (.tup ds.reverse)
  | _ => none
def intsStep (i c : Int) : Nat → List D
  | 0 => []
  | n + 1 => .int i :: intsStep (i + c) c n
def rngOk (i j c : Int) (n : Nat) : Bool := decide (c ≠ 0) && (decide (c.natAbs < 1073741824) && (Builtin.Range.small i j c && (decide (Builtin.Range.rangeSize i j c = n) && decide (n ≤ 1000000))))
def idxS (z : Str) : List Str → Option Nat
  | [] => none
  | y :: ys => if y = z then some 0 else (idxS z ys).map (· + 1)
def mkD (c : Str) : Mk → List D → Option D
  | .own, ds => if ds.length ≤ 1000 then some (.exv c [] []) else none
  | .ini f fs, ds => if ds.length = (f :: fs).length ∧ ds.length ≤ 1000 then some (.exv c (f :: fs).reverse ds.reverse) else none
def lookF : List Str → List D → Str → Option D
  | k :: ks, x :: xs, f => if f = k then some x else lookF ks xs f
  | _, _, _ => none
def look1 {α : Type} : List (Str × α) → Str → Option α
  | [], _ => none
  | (y, a) :: r, x => if x = y then some a else look1 r x
def putFW (f : Str) (w : W) : List (Str × W) → List (Str × W)
  | [] => [(f, w)]
  | (g, x) :: r => if g = f then (g, w) :: r else (g, x) :: putFW f w r
def fldD (G : Gt) (f : Str) (st : Store) : W → Option W
  | .d (.exv c ks xs) => if G.fld c f = true then (lookF ks xs f).map W.d else none
  | .cell n => (match st[n]? with
    | some (.obj c fs) => if G.cfl c f = true then look1 fs f else none
    | _ => none)
  | _ => none
def okW (o : Option W) (st : Store) : R W := match o with
  | some w => .ok w st
  | none => .bad
def newR (n : Nat) (r : R W) : R W := r.bind fun w st => match w with
  | .d .non => .ok (.cell n) st
  | _ => .bad
/-- what o.m is -/
def methF (G : Gt) (m : Str) (st : Store) : W → Option (Nat × (List W → Store → R W))
  | .cell n => (match st[n]? with
    | some (.obj c fs) => (match look1 fs m with
      | none => (G.meth c m).map fun F => (n, F)
      | some _ => none)
    | _ => none)
  | _ => none
def isxD (G : Gt) (y : Str) : W → Option Bool
  | .d (.exv c _ _) => G.sub c y
  | _ => none
mutual
def asgT : T → D → Ro → Option Ro
  | .nm i, d, ro => if i < ro.length then some (ro.set i (some (.d d))) else none
  | .nil, .tup [], ro => some ro
  | .cons t r, .tup (d :: ds), ro => (asgT t d ro).bind (asgTs r ds)
  | _, _, _ => none
def asgTs : T → List D → Ro → Option Ro
  | .nil, [], ro => some ro
  | .cons t r, d :: ds, ro => (asgT t d ro).bind (asgTs r ds)
  | _, _, _ => none
end
def D.truth : D → Option Bool
  | .non => some false
  | .bl b => some b
  | .int i => some (i != 0)
  | .str z => if z.length ≤ sizeLine then some ((z.length : Int) != 0) else none
  | .lst ds => some (!ds.isEmpty)
  | .tup ds => some (!ds.isEmpty)
  | .scr ds => some (!ds.isEmpty)
  | .dic ks _ => none
  | .exv _ _ _ => none
def truth (st : Store) (w : W) : Option Bool := (peek st w).bind D.truth
def peekAll (st : Store) : List W → Option (List D)
  | [] => some []
  | w :: r => (peek st w).bind fun d => (peekAll st r).map (d :: ·)
def keepAll : List W → Store → R (List D)
  | [], st => .ok [] st
  | w :: r, st => (keepD st w).bind fun d st1 => (keepAll r st1).bind fun ds st2 => .ok (d :: ds) st2
def okD (o : Option D) (st : Store) : R W := match o with
  | some d => .ok (.d d) st
  | none => .bad
def okE (o : Option (Except Xv D)) (st : Store) : R W := match o with
  | some (.ok d) => .ok (.d d) st
  | some (.error x) => .exc x st
  | none => .bad
def R.nox {α : Type} : R α → R α
  | .ok a st => .ok a st
  | .exc _ _ => .bad
  | .bad => .bad
def okB (o : Option Bool) (st : Store) : R W := match o with
  | some b => .ok (.d (.bl b)) st
  | none => .bad
def opt1 {α : Type} (st : Store) (a : W) (f : D → Option α) : Option α := (peek st a).bind f
def opt2 {α : Type} (st : Store) (a b : W) (f : D → D → Option α) : Option α := (peek st a).bind fun x => (peek st b).bind fun y => f x y
/-- a test's way -/
def R.tst {α : Type} (r : R W) (f : Bool → W → Store → R α) : R α := r.bind fun w st => match truth st w with
  | some b => f b w st
  | none => .bad
def keyOf : D → Option Key
  | .int i => some (.inl i)
  | .str s => some (.inr s)
  | _ => none
def lookK (kvs : List (Key × D)) (k : Key) : Option D := (kvs.find? fun kv => decide (kv.1 = k)).map (·.2)
def kinD (st : Store) (k d : W) : Option Bool := match d, k with
  | .cell n, .d kd => (match st[n]?, keyOf kd with
    | some (.dic kvs), some key => some (lookK kvs key).isSome
    | _, _ => none)
  | _, _ => none
def dgetD (st : Store) (a k : W) : Option D := match a, k with
  | .cell n, .d k => (match st[n]?, keyOf k with
    | some (.dic kvs), some key => lookK kvs key
    | _, _ => none)
  | _, _ => none
def itemsOf : D → Option (List D)
  | .lst ds => some ds
  | .tup ds => some ds
  | .scr ns => some (ns.map .int)
  | .str z => if z.length ≤ sizeLine then some (z.cps.toList.map fun c => .str ⟨#[c]⟩) else none
  | _ => none
def intsFrom (lo : Int) : Nat → List D
  | 0 => []
  | n + 1 => .int lo :: intsFrom (lo + 1) n
def enumFrom (i : Nat) : List D → List D
  | [] => []
  | d :: ds => .tup [.int i, d] :: enumFrom (i + 1) ds
def zipD : List D → List D → List D
  | a :: as, b :: bs => .tup [a, b] :: zipD as bs
  | _, _ => []
def enmD : D → Option (List D)
  | .lst ds => some (enumFrom 0 ds)
  | .tup ds => some (enumFrom 0 ds)
  | _ => none
def zipDD : D → D → Option (List D)
  | .lst ds, .lst es => some (zipD ds es)
  | .tup ds, .tup es => some (zipD ds es)
  | _, _ => none
def okL (o : Option (List D)) (st : Store) : R (List D) := match o with
  | some d => .ok d st
  | none => .bad
/-- a comprehension's turns -/
def lcRun (fc fe : Ro → Store → R W) (t : T) (ro : Ro) : List D → Store → List D → R (List D)
  | [], st, acc => .ok acc st
  | x :: r, st, acc => match asgT t x ro with
    | none => .bad
    | some ro1 => (fc ro1 st).tst fun b _ st1 => if b = true then (fe ro1 st1).bind fun w st2 => (keepD st2 w).bind fun d st3 => lcRun fc fe t ro r st3 (acc ++ [d]) else lcRun fc fe t ro r st1 acc
def part (m : M) (r : R W) (f : Option Int → Store → R W) (st : Store) : R W := match m with
  | .absent => f none st
  | _ => r.bind fun w st1 => match peek st1 w with
    | some (.int i) => f (some i) st1
    | _ => .bad
mutual
def ev (G : Gt) : M → Ro → Store → R W
  | .var i, ro, st => (match ro[i]? with
    | some (some w) => .ok w st
    | _ => .bad)
  | .glob x, _, st => okD (G.con x) st
  | .non, _, st => .ok (.d .non) st
  | .bl b, _, st => .ok (.d (.bl b)) st
  | .int i, _, st => .ok (.d (.int i)) st
  | .str z, _, st => .ok (.d (.str z)) st
  | .bin op a b, ro, st => (ev G a ro st).bind fun wa st1 => (ev G b ro st1).bind fun wb st2 => okD (opt2 st2 wa wb (binD op)) st2
  | .neg a, ro, st => (ev G a ro st).bind fun wa st1 => (match peek st1 wa with
    | some (.int i) => .ok (.d (.int (-i))) st1
    | _ => .bad)
  | .cmp op a b, ro, st => (ev G a ro st).bind fun wa st1 => (ev G b ro st1).bind fun wb st2 => okB (opt2 st2 wa wb (cmpD op)) st2
  | .chain op op' a b c, ro, st => (ev G a ro st).bind fun wa st1 => (ev G b ro st1).bind fun wb st2 => (match opt2 st2 wa wb (cmpD op) with
    | none => .bad
    | some false => .ok (.d (.bl false)) st2
    | some true => (ev G c ro st2).bind fun wc st3 => okB (opt2 st3 wb wc (cmpD op')) st3)
  | .and2 a b, ro, st => (ev G a ro st).tst fun k wa st1 => if k = true then ev G b ro st1 else .ok wa st1
  | .or2 a b, ro, st => (ev G a ro st).tst fun k wa st1 => if k = true then .ok wa st1 else ev G b ro st1
  | .not a, ro, st => (ev G a ro st).tst fun k _ st1 => .ok (.d (.bl (!k))) st1
  | .ite c a b, ro, st => (ev G c ro st).tst fun k _ st1 => if k = true then ev G a ro st1 else ev G b ro st1
  | .tup es, ro, st => (evs G es ro st).bind fun ws st1 => (keepAll ws st1).bind fun ds st2 => if ds.length ≤ 1000 then .ok (.d (.tup ds)) st2 else .bad
  | .lst es, ro, st => (evs G es ro st).bind fun ws st1 => (keepAll ws st1).bind fun ds st2 => if ds.length ≤ 1000 then .ok (.d (.lst ds)) st2 else .bad
  | .nlst, _, st => .ok (.cell st.length) (st ++ [.lst []])
  | .dic ks vs, ro, st => (evs G vs ro st).bind fun ws st1 => (keepAll ws st1).bind fun ds st2 => .ok (.cell st2.length) (st2 ++ [.dic ((ks.map Sum.inr).zip ds)])
  | .ndic, _, st => .ok (.cell st.length) (st ++ [.dic []])
  | .dget d k, ro, st => (ev G d ro st).bind fun wd st1 => (ev G k ro st1).bind fun wk st2 => okD (dgetD st2 wd wk) st2
  | .sub a i, ro, st => (ev G a ro st).bind fun wa st1 => (ev G i ro st1).bind fun wb st2 => okD (opt2 st2 wa wb ixD) st2
  | .slc a lo hi, ro, st => (ev G a ro st).bind fun wa st1 => part lo (ev G lo ro st1) (fun l st2 => part hi (ev G hi ro st2) (fun h st3 => okD ((peek st3 wa).bind fun x => slD x l h) st3) st2) st1
  | .absent, _, _ => .bad
  | .bi b es, ro, st => (evs G es ro st).bind fun ws st1 => okD ((peekAll st1 ws).bind (biD b)) st1
  | .isi a t, ro, st => (ev G a ro st).bind fun wa st1 => okB ((peek st1 wa).bind fun x => isiD x t) st1
  | .mth m o es, ro, st => (ev G o ro st).bind fun wo st1 => (match wo with
    | .d (.str z) => (evs G es ro st1).bind fun ws st2 => okD ((peekAll st2 ws).bind (mtD m (.str z))) st2
    | _ => .bad)
  | .callP f es, ro, st => (match G.fp f with
    | none => .bad
    | some F => (evs G es ro st).bind fun ws st1 => (keepAll ws st1).bind fun ds st2 => okE (F ds) st2)
  | .callS f es, ro, st => (match G.fs f with
    | none => .bad
    | some F => (evs G es ro st).bind fun ws st1 => F ws st1)
  | .tix x e, ro, st => (match G.tix x with
    | none => .bad
    | some ys => (ev G e ro st).bind fun we st1 => okD (match we with
      | .d (.str z) => (idxS z ys).map fun j => .int j
      | _ => none) st1)
  | .lstc es, ro, st => (evs G es ro st).bind fun ws st1 => (keepAll ws st1).bind fun ds st2 => if ds.length ≤ 1000 then .ok (.cell st2.length) (st2 ++ [.lst ds]) else .bad
  | .addc a b, ro, st => (ev G a ro st).bind fun wa st1 => (ev G b ro st1).bind fun wb st2 => (match peek st2 wa, peek st2 wb with
    | some (.lst xs), some (.lst ys) => if xs.length + ys.length ≤ sizeLine then .ok (.cell st2.length) (st2 ++ [.lst (xs ++ ys)]) else .bad
    | _, _ => .bad)
  | .srts a, ro, st => (ev G a ro st).bind fun w st1 => okD ((peek st1 w).bind srtsD) st1
  | .rev a, ro, st => (ev G a ro st).bind fun w st1 => okD ((peek st1 w).bind revD) st1
  | .kin neg k d, ro, st => (ev G k ro st).bind fun wk st1 => (ev G d ro st1).bind fun wd st2 => okB ((kinD st2 wk wd).map fun b => b != neg) st2
  | .mk c es, ro, st => (match G.mke c with
    | none => .bad
    | some k => (evs G es ro st).bind fun ws st1 => (keepAll ws st1).bind fun ds st2 => okD (mkD c k ds) st2)
  | .fld o f, ro, st => (ev G o ro st).bind fun wo st1 => okW (fldD G f st1 wo) st1
  | .new c es, ro, st => (match G.ini c with
    | none => .bad
    | some F => (evs G es ro st).bind fun ws st1 => newR st1.length (F (.cell st1.length :: ws) (st1 ++ [.obj c []])))
  | .meth o m es, ro, st => (ev G o ro st).bind fun wo st1 => (match methF G m st1 wo with
    | none => .bad
    | some (n, F) => (evs G es ro st1).bind fun ws st2 => F (.cell n :: ws) st2)
  | .isx a y, ro, st => (ev G a ro st).bind fun wo st1 => okB (isxD G y wo) st1
  | .lc own t it c e, ro, st => (evi G it ro st).bind fun items st1 => (lcRun (ev G c) (ev G e) t (wipeW ro own) items st1 []).nox.bind fun ds st2 => if items.length ≤ 1000000 then .ok (.d (.lst ds)) st2 else .bad
def evs (G : Gt) : Ms → Ro → Store → R (List W)
  | .nil, _, st => .ok [] st
  | .cons e r, ro, st => (ev G e ro st).bind fun w st1 => (evs G r ro st1).bind fun ws st2 => .ok (w :: ws) st2
def evi (G : Gt) : I → Ro → Store → R (List D)
  | .it e, ro, st => (ev G e ro st).bind fun w st1 => (keepD st1 w).bind fun d st2 => okL (itemsOf d) st2
  | .rng1 a, ro, st => (ev G a ro st).bind fun w st1 => (match peek st1 w with
    | some (.int j) => if -(2 ^ 62) ≤ j ∧ j < 2 ^ 20 then .ok (intsFrom 0 j.toNat) st1 else .bad
    | _ => .bad)
  | .rng2 a b, ro, st => (ev G a ro st).bind fun w st1 => (ev G b ro st1).bind fun u st2 => (match peek st2 w, peek st2 u with
    | some (.int i), some (.int j) => if -(2 ^ 20) ≤ i ∧ i < 2 ^ 20 ∧ -(2 ^ 20) ≤ j ∧ j < 2 ^ 20 then .ok (intsFrom i (j - i).toNat) st2 else .bad
    | _, _ => .bad)
  | .rng3 a b c, ro, st => (ev G a ro st).bind fun w st1 => (ev G b ro st1).bind fun u st2 => (ev G c ro st2).bind fun z st3 => (match peek st3 w, peek st3 u, peek st3 z with
    | some (.int i), some (.int j), some (.int k) => if rngOk i j k (Builtin.Range.rangeSize i j k).toNat = true then .ok (intsStep i k (Builtin.Range.rangeSize i j k).toNat) st3 else .bad
    | _, _, _ => .bad)
  | .enm e, ro, st => (ev G e ro st).bind fun w st1 => (keepD st1 w).bind fun d st2 => okL (enmD d) st2
  | .zip a b, ro, st => (ev G a ro st).bind fun w st1 => (ev G b ro st1).bind fun u st2 => (keepD st2 w).bind fun d st3 => (keepD st3 u).bind fun e st4 => okL (zipDD d e) st4
end
/-! ### the text is this -/
def visB (sc : Scope) (x : Str) : Bool := match sc.names.lookup x with
  | some .local => true
  | some .cell => true
  | some .free => true
  | _ => false
def locB (sc : Scope) (x : Str) : Bool := match sc.names.lookup x with
  | some .local => true
  | some .cell => true
  | _ => false
def dbg (x : Str) : Bool := (x == ("__debug__" : Str))
def glB (sc : Scope) (x : Str) : Bool := decide (sc.names.lookup x = some .globalImplicit) && !dbg x
def noStar : Expr → Bool
  | .Starred _ _ => false
  | _ => true
def noSlice : Expr → Bool
  | .Slice _ _ _ _ => false
  | _ => true
def noSet : Expr → Bool
  | .Set _ _ _ => false
  | _ => true
def notBare : Expr → Bool
  | .Call _ [] [] _ => false
  | _ => true
mutual
def chkT (N : List Str) (og sc : Scope) : T → Expr → Bool
  | .nm i, .Name x _ => decide (N[i]? = some x) && locB sc x && (decide (sc.names.lookup x = some .local) || decide (og.names.lookup x = some .cell))
  | .nil, .Tuple [] _ _ => true
  | .cons t r, .Tuple (e :: es) _ _ => noStar e && chkT N og sc t e && chkTs N og sc r es
  | _, _ => false
def chkTs (N : List Str) (og sc : Scope) : T → List Expr → Bool
  | .nil, [] => true
  | .cons t r, e :: es => noStar e && chkT N og sc t e && chkTs N og sc r es
  | _, _ => false
end
def tIdx : T → List Nat
  | .nm i => [i]
  | .nil => []
  | .cons t r => tIdx t ++ tIdx r
def isTupE : Expr → Bool
  | .Tuple _ _ _ => true
  | _ => false
def wantTup : I → Bool
  | .enm _ => true
  | .zip _ _ => true
  | _ => false
def keysAre : List Str → List (Option Expr) → Bool
  | [], [] => true
  | k :: ks, some (.Constant (.str z) _ _) :: es => decide (k = z) && keysAre ks es
  | _, _ => false
def isAbsent : M → Bool
  | .absent => true
  | _ => false
def ownN (N : List Str) (own : List Nat) : List (Str × Nat) := own.map fun i => (N.getD i (Str.ofString ""), i)
mutual
def chk (N : List Str) : Scope → M → Expr → Bool
  | sc, .var i, .Name x _ => decide (N[i]? = some x) && visB sc x && !dbg x && !(x == ("__classdict__" : Str))
  | sc, .glob y, .Name x _ => decide (y = x) && glB sc x
  | _, .non, .Constant .none _ _ => true
  | _, .bl b, .Constant (.bool c) _ _ => b == c
  | _, .int b, .Constant (.int c) _ _ => decide (b = c)
  | _, .str b, .Constant (.str c) _ _ => decide (b = c)
  | sc, .bin op a b, .BinOp l o r _ => decide (op = o) && chk N sc a l && chk N sc b r
  | sc, .neg a, .UnaryOp .USub x _ => chk N sc a x
  | sc, .cmp op a b, .Compare l [o] [r] _ => decide (op = o) && chk N sc a l && chk N sc b r && noSet r
  | sc, .chain op op' a b c, .Compare l [o, o'] [x, y] _ => decide (op = o) && decide (op' = o') && chk N sc a l && chk N sc b x && chk N sc c y && noSet y
  | sc, .and2 a b, .BoolOp .And [x, y] _ => chk N sc a x && chk N sc b y
  | sc, .and2 a b, .BoolOp .And (x :: y :: z :: r) p => chk N sc a x && chk N sc b (.BoolOp .And (y :: z :: r) p)
  | sc, .or2 a b, .BoolOp .Or [x, y] _ => chk N sc a x && chk N sc b y
  | sc, .or2 a b, .BoolOp .Or (x :: y :: z :: r) p => chk N sc a x && chk N sc b (.BoolOp .Or (y :: z :: r) p)
  | sc, .not a, .UnaryOp .Not x _ => chk N sc a x
  | sc, .ite c a b, .IfExp t x y _ => chk N sc c t && chk N sc a x && chk N sc b y
  | sc, .tup es, .Tuple xs _ _ => chks N sc es xs
  | sc, .lst es, .List xs _ => chks N sc es xs
  | _, .nlst, .List [] _ => true
  | sc, .dic ks vs, .Dict keys vals _ => keysAre ks keys && chks N sc vs vals && decide (ks.Nodup) && decide (ks.length ≤ 15) && decide (ks.length = vals.length) && !ks.isEmpty
  | _, .ndic, .Dict [] [] _ => true
  | sc, .dget d k, .Subscript o i _ => chk N sc d o && chk N sc k i && noSlice i
  | sc, .sub d k, .Subscript o i _ => chk N sc d o && chk N sc k i && noSlice i
  | sc, .slc a lo hi, .Subscript o (.Slice l h none _) _ => chk N sc a o && (match l with
      | none => isAbsent lo
      | some e => !isAbsent lo && chk N sc lo e) && (match h with
      | none => isAbsent hi
      | some e => !isAbsent hi && chk N sc hi e)
  | sc, .bi b es, .Call (.Name x _) (e :: r) [] _ => decide (x = b.name) && glB sc x && chks N sc es (e :: r)
  | sc, .isi a t, .Call (.Name x _) [e, .Name y _] [] _ => decide (x = ("isinstance" : Str)) && glB sc x && glB sc y && decide (y = Str.ofString t.name) && chk N sc a e && noStar e
  | sc, .mth m o es, .Call (.Attribute x nm ap) [] [] cp => decide (nm = m.name) && (ap.endLine == cp.line) && notBare x && chk N sc o x && chks N sc es []
  | sc, .mth m o es, .Call (.Attribute x nm ap) (e :: r) [] cp => decide (nm = m.name) && (ap.endLine == cp.line) && notBare x && decide (r.length < 20) && chk N sc o x && chks N sc es (e :: r)
  | sc, .callP f es, .Call (.Name x _) xs [] _ => decide (x = f) && glB sc x && chks N sc es xs
  | sc, .callS f es, .Call (.Name x _) xs [] _ => decide (x = f) && glB sc x && chks N sc es xs
  | sc, .tix y e, .Call (.Attribute (.Name x _) nm ap) [a] [] cp => decide (x = y) && glB sc x && decide (nm = ("index" : Str)) && (ap.endLine == cp.line) && noStar a && chk N sc e a
  | sc, .lstc es, .List xs _ => chks N sc es xs
  | sc, .addc a b, .BinOp l o r _ => decide (o = .Add) && chk N sc a l && chk N sc b r
  | sc, .srts a, .Call (.Name x _) [.Call (.Name y _) [e] [] _] [] _ => decide (x = ("sorted" : Str)) && glB sc x && decide (y = ("set" : Str)) && glB sc y && noStar e && chk N sc a e
  | sc, .rev a, .Subscript e (.Slice none none (some (.UnaryOp .USub (.Constant (.int 1) _ _) _)) _) _ => chk N sc a e
  | sc, .kin neg k d, .Compare l [o] [r] _ => decide (o = if neg = true then CmpOp.NotIn else CmpOp.In) && chk N sc k l && chk N sc d r && noSet r
  | sc, .mk c es, .Call (.Name x _) (e :: r) [] _ => decide (x = c) && glB sc x && chks N sc es (e :: r)
  | sc, .new c es, .Call (.Name x _) xs [] _ => decide (x = c) && glB sc x && chks N sc es xs
  | sc, .meth o m es, .Call (.Attribute x nm ap) xs [] cp => decide (nm = m) && (ap.endLine == cp.line) && notBare x && decide (xs.length < 20) && chk N sc o x && chks N sc es xs
  | sc, .fld o f, .Attribute x nm _ => decide (nm = f) && notBare x && chk N sc o x
  | sc, .isx a y, .Call (.Name x _) [e, .Name z _] [] _ => decide (x = ("isinstance" : Str)) && glB sc x && decide (z = y) && glB sc z && chk N sc a e && noStar e
  | sc, .lc own t it c e, .ListComp elt [g] scope _ => decide (g.is_async = 0) && chkT N scope (relS scope sc) t g.target && ((tIdx t).all fun i => own.contains i) && (!wantTup it || isTupE g.target) && chki N sc it g.iter && noSet g.iter && (match g.ifs with
      | [] => (match c with
        | .bl true => true
        | _ => false)
      | [x] => chk N (relS scope sc) c x
      | _ => false) && chk N (relS scope sc) e elt && blkC N sc scope (ownN N own)
  | _, _, _ => false
def chks (N : List Str) : Scope → Ms → List Expr → Bool
  | _, .nil, [] => true
  | sc, .cons m r, e :: es => noStar e && chk N sc m e && chks N sc r es
  | _, _, _ => false
def chki (N : List Str) : Scope → I → Expr → Bool
  | sc, .it m, e => chk N sc m e
  | sc, .rng1 a, .Call (.Name x _) [e] [] _ => decide (x = ("range" : Str)) && glB sc x && noStar e && chk N sc a e
  | sc, .rng3 a b c, .Call (.Name x _) [e, f, g] [] _ => decide (x = ("range" : Str)) && glB sc x && noStar e && noStar f && noStar g && chk N sc a e && chk N sc b f && chk N sc c g
  | sc, .rng2 a b, .Call (.Name x _) [e, f] [] _ => decide (x = ("range" : Str)) && glB sc x && noStar e && noStar f && chk N sc a e && chk N sc b f
  | sc, .enm a, .Call (.Name x _) [e] [] _ => decide (x = ("enumerate" : Str)) && glB sc x && noStar e && chk N sc a e
  | sc, .zip a b, .Call (.Name x _) [e, f] [] _ => decide (x = ("zip" : Str)) && glB sc x && noStar e && noStar f && chk N sc a e && chk N sc b f
  | _, _, _ => false
end
end Ev
set_option Elab.async false
set_option linter.all false
set_option maxRecDepth 100000
set_option maxHeartbeats 4000000
namespace Ev
open PySem PySem.Spec PyProof.Rows L2
/-! ### what a text asks of the state -/
abbrev EXT := Xv → Hp → List Addr → Store → Hp → Prop
def PX {α β : Type} (K : PySem.W.Frag) (EX : EXT) (Hd : Hp) (io : List Addr) (H : Hp) (Rel : Hp → List Addr → α → β → Prop) (Q : β → Hp → Prop) : R α → Prop
  | .ok w st' => ∀ v Hd' io' H', Ext Hd io H Hd' io' H' → Rl K Hd' io' st' H' → Rel Hd' io' w v → Q v H'
  | .exc x st' => ∀ Hd' io' H', Ext Hd io H Hd' io' H' → Rl K Hd' io' st' H' → EX x Hd' io' st' H'
  | .bad => False
section
variable {α β γ δ : Type} {K : PySem.W.Frag} {EX : EXT} {Hd : Hp} {io : List Addr} {H : Hp} {Rel : Hp → List Addr → α → β → Prop} {Rel2 : Hp → List Addr → γ → δ → Prop}
theorem PX.ext {Hd1 H1 : Hp} {io1 : List Addr} {Q : β → Hp → Prop} {r : R α} (e : Ext Hd io H Hd1 io1 H1) (h : PX K EX Hd io H Rel Q r) : PX K EX Hd1 io1 H1 Rel Q r := by
  cases r with
  | bad => exact h
  | exc x st => exact fun a b c e1 l1 => h a b c (e.trans e1) l1
  | ok w st => exact fun v a b c e1 l1 => h v a b c (e.trans e1) l1
theorem PX.imp {Q Q' : β → Hp → Prop} {r : R α} (h : PX K EX Hd io H Rel Q r) (k : ∀ v H', Q v H' → Q' v H') : PX K EX Hd io H Rel Q' r := by
  cases r with
  | bad => exact h
  | exc x st => exact h
  | ok w st => exact fun v a b c e1 l1 r1 => k v c (h v a b c e1 l1 r1)
theorem PX.bind {r : R α} {f : α → Store → R γ} {Q : δ → Hp → Prop} {Q1 : β → Hp → Prop} (h : PX K EX Hd io H Rel2 Q (r.bind f))
    (k : ∀ v H1 Hd1 io1 w st1, Ext Hd io H Hd1 io1 H1 → Rl K Hd1 io1 st1 H1 → Rel Hd1 io1 w v → PX K EX Hd1 io1 H1 Rel2 Q (f w st1) → Q1 v H1) : PX K EX Hd io H Rel Q1 r := by
  cases r with
  | bad => exact h
  | exc x st => exact h
  | ok w st1 => exact fun v Hd1 io1 H1 e1 l1 r1 => k v H1 Hd1 io1 w st1 e1 l1 r1 (PX.ext e1 h)
theorem PX.here {Q : β → Hp → Prop} {w : α} {st : Store} {v : β} (h : PX K EX Hd io H Rel Q (.ok w st)) (l : Rl K Hd io st H) (r : Rel Hd io w v) : Q v H := h v Hd io H Ext.refl l r
theorem PX.post {Q : β → Hp → Prop} {w : α} {st : Store} (h : PX K EX Hd io H Rel Q (.ok w st)) : Post K Hd io H Rel Q (.ok w st) := h
theorem PX.okD {Q : VK} {o : Option D} {st : Store} (h : PX K EX Hd io H (RelW K) Q (okD o st)) : ∃ d, o = some d ∧ Post K Hd io H (RelW K) Q (.ok (.d d) st) := by
  cases o with
  | none => exact h.elim
  | some d => exact ⟨d, rfl, h⟩
theorem PX.okB {Q : VK} {o : Option Bool} {st : Store} (h : PX K EX Hd io H (RelW K) Q (okB o st)) : ∃ d, o = some d ∧ Post K Hd io H (RelW K) Q (.ok (.d (.bl d)) st) := by
  cases o with
  | none => exact h.elim
  | some d => exact ⟨d, rfl, h⟩
end
theorem opt2_some {α : Type} {st : Store} {a b : W} {f : D → D → Option α} {z : α} (h : opt2 st a b f = some z) : ∃ x y, peek st a = some x ∧ peek st b = some y ∧ f x y = some z := by
  unfold opt2 at h
  cases ha : peek st a with
  | none => rw [ha] at h; cases h
  | some x =>
    rw [ha] at h
    cases hb : peek st b with
    | none => rw [hb] at h; cases h
    | some y => rw [hb] at h; exact ⟨x, y, rfl, rfl, h⟩
inductive RelWs (K : PySem.W.Frag) (Hd : Hp) (io : List Addr) : List W → List V → Prop
  | nil : RelWs K Hd io [] []
  | cons {w : W} {v : V} {ws : List W} {vs : List V} : RelW K Hd io w v → RelWs K Hd io ws vs → RelWs K Hd io (w :: ws) (v :: vs)
theorem RelWs.mono {K : PySem.W.Frag} {Hd Hd' H H' : Hp} {io io' : List Addr} (e : Ext Hd io H Hd' io' H') : ∀ {ws : List W} {vs : List V}, RelWs K Hd io ws vs → RelWs K Hd' io' ws vs
  | _, _, .nil => .nil
  | _, _, .cons h r => .cons (h.mono e) (RelWs.mono e r)
def RelB (_ : Hp) (_ : List Addr) (b : Bool) (c : Bool) : Prop := b = c
def RelDsv (K : PySem.W.Frag) (Hd : Hp) (_ : List Addr) (d : List D) (v : List V) : Prop := RelDs K Hd v d
theorem keepAll_ok {K : PySem.W.Frag} : ∀ {ws : List W} {vs : List V} {Hd : Hp} {io : List Addr} {st st' : Store} {H : Hp} {ds : List D}, Rl K Hd io st H → RelWs K Hd io ws vs → keepAll ws st = .ok ds st' →
    ∃ Hd', Ext Hd io H Hd' io H ∧ Rl K Hd' io st' H ∧ RelDs K Hd' vs ds
  | _, _, Hd, io, st, st', H, ds, l, .nil, h => by
    cases h
    exact ⟨Hd, Ext.refl, l, .nil⟩
  | _, _, Hd, io, st, st', H, ds, l, .cons (w := w) (ws := ws) hw r, h => by
    simp only [keepAll] at h
    cases h1 : keepD st w with
    | bad => rw [h1] at h; cases h
    | exc x s => rw [h1] at h; cases h
    | ok d st1 =>
      rw [h1, R.bind_ok] at h
      obtain ⟨Hd1, e1, l1, r1⟩ := keepD_ok l hw h1
      cases h2 : keepAll ws st1 with
      | bad => rw [h2] at h; cases h
      | exc x s => rw [h2] at h; cases h
      | ok ds2 st2 =>
        rw [h2, R.bind_ok] at h
        cases h
        obtain ⟨Hd2, e2, l2, r2⟩ := keepAll_ok l1 (r.mono e1) h2
        exact ⟨Hd2, e1.trans e2, l2, .cons (RelD.mono e2.hd r1) r2⟩
theorem keepD_bind {α β : Type} {K : PySem.W.Frag} {EX : EXT} {Hd : Hp} {io : List Addr} {H : Hp} {Rel : Hp → List Addr → α → β → Prop} {Q : β → Hp → Prop} {st : Store} {w : W} {v : V} {f : D → Store → R α} (l : Rl K Hd io st H) (r : RelW K Hd io w v) (h : PX K EX Hd io H Rel Q ((keepD st w).bind f)) :
    ∃ d Hd' st', Ext Hd io H Hd' io H ∧ Rl K Hd' io st' H ∧ RelD K Hd' v d ∧ PX K EX Hd' io H Rel Q (f d st') := by
  cases h1 : keepD st w with
  | bad => rw [h1] at h; exact h.elim
  | exc x s =>
    cases w with
    | d x => cases h1
    | cell n =>
      unfold keepD at h1
      dsimp only at h1
      split at h1 <;> cases h1
  | ok d st1 =>
    rw [h1, R.bind_ok] at h
    obtain ⟨Hd1, e1, l1, r1⟩ := keepD_ok l r h1
    exact ⟨d, Hd1, st1, e1, l1, r1, PX.ext e1 h⟩
theorem keepD_noexc {st : Store} {w : W} {x : Xv} {s : Store} (h1 : keepD st w = .exc x s) : False := by
  cases w with
  | d x => cases h1
  | cell n =>
    unfold keepD at h1
    dsimp only at h1
    split at h1 <;> cases h1
theorem keepAll_noexc : ∀ {ws : List W} {st : Store} {x : Xv} {s : Store}, keepAll ws st = .exc x s → False
  | [], _, _, _, h => by cases h
  | w :: ws, st, x, s, h => by
    simp only [keepAll] at h
    cases h1 : keepD st w with
    | bad => rw [h1] at h; cases h
    | exc x s => exact keepD_noexc h1
    | ok d st1 =>
      rw [h1, R.bind_ok] at h
      cases h2 : keepAll ws st1 with
      | bad => rw [h2] at h; cases h
      | exc x s => exact keepAll_noexc h2
      | ok ds st2 => rw [h2] at h; cases h
theorem keepAll_bind {α β : Type} {K : PySem.W.Frag} {EX : EXT} {Hd : Hp} {io : List Addr} {H : Hp} {Rel : Hp → List Addr → α → β → Prop} {Q : β → Hp → Prop} {st : Store} {ws : List W} {vs : List V} {f : List D → Store → R α} (l : Rl K Hd io st H) (r : RelWs K Hd io ws vs) (h : PX K EX Hd io H Rel Q ((keepAll ws st).bind f)) :
    ∃ ds Hd' st', Ext Hd io H Hd' io H ∧ Rl K Hd' io st' H ∧ RelDs K Hd' vs ds ∧ PX K EX Hd' io H Rel Q (f ds st') := by
  cases h1 : keepAll ws st with
  | bad => rw [h1] at h; exact h.elim
  | exc x s => exact (keepAll_noexc h1).elim
  | ok d st1 =>
    rw [h1, R.bind_ok] at h
    obtain ⟨Hd1, e1, l1, r1⟩ := keepAll_ok l r h1
    exact ⟨d, Hd1, st1, e1, l1, r1, PX.ext e1 h⟩
theorem peekAll_ok {K : PySem.W.Frag} {Hd : Hp} {io : List Addr} {st : Store} {H : Hp} (l : Rl K Hd io st H) : ∀ {ws : List W} {vs : List V} {ds : List D}, RelWs K Hd io ws vs → peekAll st ws = some ds → PkDs K Hd H vs ds
  | _, _, _, .nil, h => by cases h; exact .nil
  | _, _, _, .cons (w := w) (ws := ws) hw r, h => by
    simp only [peekAll] at h
    cases h1 : peek st w with
    | none => rw [h1] at h; cases h
    | some d =>
      rw [h1] at h
      cases h2 : peekAll st ws with
      | none => rw [h2] at h; cases h
      | some ds => rw [h2] at h; cases h; exact .cons (peek_ok l hw h1) (peekAll_ok l r h2)
/-! ### the contracts -/
abbrev IsX := Xv → Value → Option Addr → Hp → Prop
def eX (S : IsX) (W : WX) (σ : L2.St) : EXT := fun x Hd _ _ H => ∀ cls d, S x cls d Hd → W cls d σ H
def tM (S : IsX) (W : WX) (G : Gt) (K : PySem.W.Frag) (m : M) : TE := fun σ H Q => ∃ Hd io ro st, Rl K Hd io st H ∧ RelS K Hd io ro σ ∧ PX K (eX S W σ) Hd io H (RelW K) Q (ev G m ro st)
def tT (S : IsX) (W : WX) (G : Gt) (K : PySem.W.Frag) (m : M) : TT := fun σ H Q => ∃ Hd io ro st, Rl K Hd io st H ∧ RelS K Hd io ro σ ∧ PX K (eX S W σ) Hd io H RelB Q ((ev G m ro st).tst fun b _ st1 => .ok b st1)
def tMs (S : IsX) (W : WX) (G : Gt) (K : PySem.W.Frag) (m : Ms) : TA := fun σ H Q => ∃ Hd io ro st, Rl K Hd io st H ∧ RelS K Hd io ro σ ∧ PX K (eX S W σ) Hd io H (RelWs K) Q (evs G m ro st)
/-- a def on data -/
def spP (S : IsX) (K : PySem.W.Frag) (n : Nat) (F : List D → Option (Except Xv D)) : Sp := fun vs H Q E => vs.length = n ∧ ∃ Hd ds, Le Hd H ∧ RelDs K Hd vs ds ∧ (match F ds with
  | some (.ok d) => ∀ v Hd' H', Ext Hd [] H Hd' [] H' → Le Hd' H' → RelD K Hd' v d → Q v H'
  | some (.error x) => ∀ Hd' H' cls dx, Ext Hd [] H Hd' [] H' → Le Hd' H' → S x cls dx Hd' → E cls dx H'
  | none => False)
/-- a def on the store -/
def spS (S : IsX) (K : PySem.W.Frag) (n : Nat) (F : List W → Store → R W) : Sp := fun vs H Q E => vs.length = n ∧ ∃ Hd io st ws, Rl K Hd io st H ∧ RelWs K Hd io ws vs ∧ PX K (fun x Hd _ _ H => ∀ cls d, S x cls d Hd → E cls d H) Hd io H (RelW K) Q (F ws st)
structure FnP (X : Cx) (x : Str) (sp : Nat → Sp) : Prop where
  ok : ∃ k fa fd ps, FnG X.prog X.w X.K X.mg X.base k fa fd ps (sp ps.length) ∧ Room k X.A ∧ X.mg x = some (.ref fa) ∧ PySem.W.keepIn X.K (.ref fa) = true ∧ L2.Binds X.K fd ps [] ∧ ∃ n, ps.length = n
def blts : List Str := [("isinstance" : Str), ("range" : Str), ("enumerate" : Str), ("zip" : Str), ("len" : Str), ("all" : Str), ("any" : Str), ("sum" : Str), ("abs" : Str), ("int" : Str), ("str" : Str), ("repr" : Str), ("tuple" : Str), ("list" : Str), ("bool" : Str), ("dict" : Str), ("sorted" : Str), ("set" : Str), ("max" : Str), ("min" : Str)]
structure CtxOk (G : Gt) (N : List Str) (S : IsX) (W : WX) (sc : Scope) (X : Cx) : Prop where
  hN : X.N = N
  nd : N.Nodup
  hsc : X.env.scope = sc
  calm : X.calm = true
  tk : Takes X W
  gd : X.A.guards = some []
  room : X.A.units + 65 < cLine
  rm : Room 2 X.A
  hS : S = isXv X.K
  ini : ∀ c F, G.ini c = some F → ∃ n, (∀ ws st, F ws st ≠ .bad → ws.length = n) ∧ ∃ k f fd ps, ps.length = n ∧ L2.Mk X.K (He.ga X.K c) f ∧ FnG X.prog X.w X.K X.mg X.base k f fd ps (spS S X.K n F) ∧ Room (k + 1) X.A ∧ X.mg c = some (.ref (He.ga X.K c)) ∧ L2.Binds X.K fd ps []
  meth : ∀ c m F, G.meth c m = some F → ∃ n, (∀ ws st, F ws st ≠ .bad → ws.length = n) ∧ ∃ k f fd ps, ps.length = n ∧ L2.Cls X.K (He.ga X.K c) ∧ L2.Meth X.K (He.ga X.K c) m f ∧ FnG X.prog X.w X.K X.mg X.base k f fd ps (spS S X.K n F) ∧ Room k X.A ∧ L2.Binds X.K fd ps []
  cfl : ∀ c f, G.cfl c f = true → L2.Cls X.K (He.ga X.K c) ∧ L2.NoAttr X.K (He.ga X.K c) f
  tix : ∀ x ys, G.tix x = some ys → TixOk X.K X.mg x ys
  mke : ∀ x k, G.mke x = some k → MkOk X.prog X.w X.K X.mg X.base x k
  sub : ∀ x y b, G.sub x y = some b → SubOk X.K X.mg x y b
  exm : ∀ x y b, G.exm x y = some b → ExmOk X.K X.mg x y b
  fld : ∀ x f, G.fld x f = true → FldOk X.K x f
  con : ∀ x d, G.con x = some d → ∃ v u, X.mg x = some u ∧ L2.RelV v u ∧ ∀ Hd, RelD X.K Hd v d
  blt : ∀ x ∈ blts, X.mg x = none
  fp : ∀ x F, G.fp x = some F → ∃ n, (∀ ds y, F ds = some y → ds.length = n) ∧ ∃ k fa fd ps, ps.length = n ∧ FnG X.prog X.w X.K X.mg X.base k fa fd ps (spP S X.K n F) ∧ Room k X.A ∧ X.mg x = some (.ref fa) ∧ PySem.W.keepIn X.K (.ref fa) = true ∧ L2.Binds X.K fd ps []
  fs : ∀ x F, G.fs x = some F → ∃ n, (∀ ds st, F ds st ≠ .bad → ds.length = n) ∧ ∃ k fa fd ps, ps.length = n ∧ FnG X.prog X.w X.K X.mg X.base k fa fd ps (spS S X.K n F) ∧ Room k X.A ∧ X.mg x = some (.ref fa) ∧ PySem.W.keepIn X.K (.ref fa) = true ∧ L2.Binds X.K fd ps []
/-! ### weaker -/
theorem PEimp {X : Cx} {e : Expr} {t t' : TE} (h : PE X e t) (k : ∀ σ H Q, t' σ H Q → t σ H Q) : PE X e t' := ⟨fun pins s σ H Q I q => h.run pins s σ H Q I (k σ H Q q)⟩
theorem PTimp {X : Cx} {e : Expr} {t t' : TT} (h : PT X e t) (k : ∀ σ H Q, t' σ H Q → t σ H Q) : PT X e t' := ⟨fun pins s σ H Q I q => h.run pins s σ H Q I (k σ H Q q)⟩
theorem PWimp {X : Cx} {e : Expr} {t t' : TT} (h : PW X e t) (k : ∀ σ H Q, t' σ H Q → t σ H Q) : PW X e t' := ⟨fun wh pins s σ H Q I q => h.run wh pins s σ H Q I (k σ H Q q)⟩
theorem PAimp {X : Cx} {e : List Expr} {t t' : TA} (h : PA X e t) (k : ∀ σ H Q, t' σ H Q → t σ H Q) : PA X e t' := ⟨fun pos pins s σ H Q I q => h.run pos pins s σ H Q I (k σ H Q q)⟩
/-! ### the texts' shapes -/
theorem star_plain {e : Expr} {es : List Expr} {env : Env} (h : noStar e = true) : starEach (e :: es) env = (false, eval e env) :: starEach es env := by
  cases e <;> first | rfl | (cases h; done)
def noStars : List Expr → Bool
  | [] => true
  | e :: es => noStar e && noStars es
theorem star_none {env : Env} {pos : Pos} : ∀ {es : List Expr}, noStars es = true → ((backTo pos (starEach es env)).any fun x => x.1) = false
  | [], _ => rfl
  | e :: es, h => by
    simp only [noStars, Bool.and_eq_true] at h
    rw [star_plain h.1]
    have := star_none (env := env) (pos := pos) h.2
    unfold backTo at this ⊢
    simpa using this
theorem starAll {env : Env} {pos : Pos} : ∀ {es : List Expr}, noStars es = true → ((backTo pos (starEach es env)).all fun x => !x.1) = true
  | [], _ => rfl
  | e :: es, h => by
    simp only [noStars, Bool.and_eq_true] at h
    rw [star_plain h.1]
    have := starAll (env := env) (pos := pos) h.2
    unfold backTo at this ⊢
    simpa using this
theorem star_len {env : Env} {pos : Pos} : ∀ {es : List Expr}, (starEach es env).length = es.length
  | [] => rfl
  | e :: es => by
    cases e <;> simp [starEach, star_len (env := env) (pos := pos) (es := es)]
theorem plainIx_of {e : Expr} (h : noSlice e = true) : PlainIx e := by
  cases e <;> first | (intro o i; rfl) | (cases h; done)
theorem noSl_of {e : Expr} (h : noSlice e = true) : NoSl e := by
  cases e <;> first | (intro o i; rfl) | (cases h; done)
theorem chks_stars {N : List Str} {sc : Scope} : ∀ {m : Ms} {es : List Expr}, chks N sc m es = true → noStars es = true
  | .nil, [], _ => rfl
  | .nil, _ :: _, h => by simp [chks] at h
  | .cons m r, [], h => by simp [chks] at h
  | .cons m r, e :: es, h => by
    simp only [chks, Bool.and_eq_true] at h
    simp only [noStars, Bool.and_eq_true]
    exact ⟨h.1.1, chks_stars h.2⟩
theorem behind_of {op : CmpOp} {e : Expr} (h : noSet e = true) : behindInMarks op e = false := by
  cases e <;> first | (cases h; done) | (cases op <;> first | rfl | decide)
end Ev
set_option Elab.async false
set_option linter.all false
set_option maxRecDepth 100000
set_option maxHeartbeats 4000000
namespace Ev
open PySem PySem.Spec PyProof.Rows L2
def Snd (G : Gt) (N : List Str) (m : M) : Prop := ∀ (S : IsX) (Wx : WX) (sc : Scope) (X : Cx) (e : Expr), CtxOk G N S Wx sc X → chk N sc m e = true → PE X e (tM S Wx G X.K m) ∧ PT X e (tT S Wx G X.K m) ∧ ∀ op vs p, e = .BoolOp op vs p → PW X e (tT S Wx G X.K m)
def SndA (G : Gt) (N : List Str) (m : Ms) : Prop := ∀ (S : IsX) (Wx : WX) (sc : Scope) (X : Cx) (es : List Expr), CtxOk G N S Wx sc X → chks N sc m es = true → PA X es (tMs S Wx G X.K m)
variable {G : Gt} {N : List Str} {S : IsX} {Wx : WX} {sc : Scope} {X : Cx}
theorem truth_tru {K : PySem.W.Frag} {Hd : Hp} {io : List Addr} {st : Store} {H : Hp} (l : Rl K Hd io st H) {w : W} {v : V} {b : Bool} (r : RelW K Hd io w v) (h : truth st w = some b) : TruV K v H b := by
  unfold truth at h
  cases hp : peek st w with
  | none => rw [hp] at h; cases h
  | some d =>
    rw [hp] at h
    have h : D.truth d = some b := h
    have pk := peek_ok l r hp
    cases d with
    | non => rw [PkD.non pk]; cases h; exact rfl
    | bl c => rw [PkD.bl pk]; cases h; exact rfl
    | int i => rw [PkD.int pk]; cases h; exact rfl
    | str z =>
      rw [PkD.str pk]
      simp only [D.truth] at h
      split at h
      · rename_i hz
        cases h
        exact ⟨hz, rfl⟩
      · cases h
    | lst ds =>
      obtain ⟨a, vs, rfl, h1, h2⟩ := pk.list l.sub
      cases h
      refine Or.inl ⟨vs, .inl (.inl h1), ?_⟩
      cases h2 <;> rfl
    | tup ds =>
      obtain ⟨a, vs, rfl, h1, h2⟩ := pk.tuple l.sub
      cases h
      refine Or.inr (Or.inl ⟨vs, h1, ?_⟩)
      cases h2 <;> rfl
    | scr ns =>
      obtain ⟨a, rfl, h1⟩ := PkD.scr l.sub pk
      cases h
      refine Or.inl ⟨_, h1, ?_⟩
      cases ns <;> rfl
    | dic ks xs => cases h
    | exv _ _ _ => cases h
theorem tst_bind {α : Type} {r : R W} {f : Bool → W → Store → R α} : r.tst f = r.bind fun w st => match truth st w with
  | some b => f b w st
  | none => .bad := rfl
theorem PX.tst {α : Type} {β : Type} {K : PySem.W.Frag} {EX : EXT} {Hd : Hp} {io : List Addr} {H : Hp} {Rel2 : Hp → List Addr → α → β → Prop} {r : R W} {f : Bool → W → Store → R α} {Q : β → Hp → Prop} {Q1 : VK} (h : PX K EX Hd io H Rel2 Q (r.tst f))
    (k : ∀ v H1 Hd1 io1 w st1 b, Ext Hd io H Hd1 io1 H1 → Rl K Hd1 io1 st1 H1 → RelW K Hd1 io1 w v → TruV K v H1 b → PX K EX Hd1 io1 H1 Rel2 Q (f b w st1) → Q1 v H1) : PX K EX Hd io H (RelW K) Q1 r := by
  rw [tst_bind] at h
  refine PX.bind h fun v H1 Hd1 io1 w st1 e1 l1 r1 h1 => ?_
  cases ht : truth st1 w with
  | none => rw [ht] at h1; exact h1.elim
  | some b =>
    rw [ht] at h1
    exact k v H1 Hd1 io1 w st1 b e1 l1 r1 (truth_tru l1 r1 ht) h1
theorem PX.tstB {α : Type} {β : Type} {K : PySem.W.Frag} {EX : EXT} {Hd : Hp} {io : List Addr} {H : Hp} {Rel2 : Hp → List Addr → α → β → Prop} {r : R W} {f : Bool → W → Store → R α} {Q : β → Hp → Prop} {Q1 : Bool → Hp → Prop} (hf : ∀ b w st w' , f b w st = f b w' st) (h : PX K EX Hd io H Rel2 Q (r.tst f))
    (k : ∀ H1 Hd1 io1 w st1 b, Ext Hd io H Hd1 io1 H1 → Rl K Hd1 io1 st1 H1 → PX K EX Hd1 io1 H1 Rel2 Q (f b w st1) → Q1 b H1) : PX K EX Hd io H RelB Q1 (r.tst fun b _ st1 => .ok b st1) := by
  cases r with
  | bad => exact h
  | exc x st => exact h
  | ok w st =>
    simp only [tst_bind, R.bind_ok] at h ⊢
    cases ht : truth st w with
    | none => rw [ht] at h; exact h.elim
    | some b =>
      rw [ht] at h
      intro c Hd1 io1 H1 e1 l1 r1
      cases (show b = c from r1)
      exact k H1 Hd1 io1 w st b e1 l1 (PX.ext e1 h)
/-- a test from a value -/
theorem tT_val {K : PySem.W.Frag} {m : M} {σ : L2.St} {H : Hp} {Q : Bool → Hp → Prop} (h : tT S Wx G K m σ H Q) : tM S Wx G K m σ H fun x H' => ∃ k, TruV K x H' k ∧ Q k H' := by
  obtain ⟨Hd, io, ro, st, l, rs, h⟩ := h
  exact ⟨Hd, io, ro, st, l, rs, PX.tst h fun v H1 Hd1 io1 w st1 b e1 l1 r1 t h1 => ⟨b, t, PX.here h1 l1 rfl⟩⟩
theorem snd_val {m : M} {e : Expr} (h : PE X e (tM S Wx G X.K m)) (he : ∀ whole, isTrue e X.env whole = (do let v ← whole; standAt e.pos; holding [v] (truthy v))) (hb : ∀ op vs p, e ≠ .BoolOp op vs p) :
    PE X e (tM S Wx G X.K m) ∧ PT X e (tT S Wx G X.K m) ∧ ∀ op vs p, e = .BoolOp op vs p → PW X e (tT S Wx G X.K m) :=
  ⟨h, PTimp (pt_truth h he) fun _ _ _ q => tT_val q, fun op vs p z => absurd z (hb op vs p)⟩
local macro_rules | `(tactic| trivial) => `(tactic| (intro _; rfl))
theorem gl_of (c : CtxOk G N S Wx sc X) {x : Str} (h : glB sc x = true) : Gl X x ∧ (x == ("__debug__" : Str)) = false := by
  unfold glB at h
  simp only [Bool.and_eq_true, decide_eq_true_eq, Bool.not_eq_true'] at h
  refine ⟨?_, h.2⟩
  unfold Gl Env.kindOf
  rw [c.hsc]
  exact h.1
theorem vis_of (c : CtxOk G N S Wx sc X) {x : Str} (h : visB sc x = true) : Vis X.env.scope x := by
  rw [c.hsc]
  unfold visB at h
  unfold Vis
  split at h <;> simp_all
theorem loc_of (c : CtxOk G N S Wx sc X) {x : Str} (h : locB sc x = true) : L2.Loc X.env.scope x := by
  rw [c.hsc]
  unfold locB at h
  unfold L2.Loc
  split at h <;> simp_all
/-! ### names, constants -/
theorem snd_var (i : Nat) : Snd G N (.var i) := by
  intro S Wx sc X e c h
  cases e <;> try (simp [chk] at h; done)
  rename_i x p
  simp only [chk, Bool.and_eq_true, decide_eq_true_eq, Bool.not_eq_true'] at h
  refine snd_val ?_ (fun _ => rfl) (fun _ _ _ z => nomatch z)
  refine PEimp (pe_var (i := i) (by rw [c.hN]; exact h.1.1.1) (vis_of c h.1.1.2) h.1.2 h.2) fun σ H Q ⟨Hd, io, ro, st, l, rs, q⟩ => ?_
  unfold ev at q
  split at q
  · rename_i w hw
    obtain ⟨v, h1, h2⟩ := rs.get i w hw
    exact ⟨v, h1, PX.here q l h2⟩
  · exact q.elim
theorem snd_glob (y : Str) : Snd G N (.glob y) := by
  intro S Wx sc X e c h
  cases e <;> try (simp [chk] at h; done)
  rename_i x p
  simp only [chk, Bool.and_eq_true, decide_eq_true_eq] at h
  obtain ⟨rfl, hg⟩ := h
  obtain ⟨g1, g2⟩ := gl_of c hg
  refine snd_val ?_ (fun _ => rfl) (fun _ _ _ z => nomatch z)
  cases hc : G.con y with
  | none =>
    refine PEimp (t := fun _ _ _ => False) ⟨fun _ _ _ _ _ _ h => h.elim⟩ fun σ H Q ⟨Hd, io, ro, st, l, rs, q⟩ => ?_
    unfold ev at q
    rw [hc] at q
    exact q
  | some d =>
    obtain ⟨v, u, h1, h2, h3⟩ := c.con y d hc
    refine PEimp (pe_glob g1 h1 h2 g2) fun σ H Q ⟨Hd, io, ro, st, l, rs, q⟩ => ?_
    unfold ev at q
    rw [hc] at q
    exact PX.here (show PX _ _ _ _ _ _ _ (R.ok _ _) from q) l (h3 Hd)
theorem const_here {K : PySem.W.Frag} {d : D} {v : V} {m : M} (hm : ∀ ro st, ev G m ro st = .ok (.d d) st) (r : ∀ Hd, RelD K Hd v d) (σ : L2.St) (H : Hp) (Q : VK) (h : tM S Wx G K m σ H Q) : tC v σ H Q := by
  obtain ⟨Hd, io, ro, st, l, rs, q⟩ := h
  rw [hm] at q
  exact PX.here q l (r Hd)
theorem snd_non : Snd G N .non := by
  intro S Wx sc X e c h
  cases e <;> try (simp [chk] at h; done)
  rename_i x i p
  cases x <;> try (simp [chk] at h; done)
  exact snd_val (PEimp pe_non (const_here (d := .non) (fun _ _ => by simp only [ev]) fun _ => .non)) (fun _ => rfl) (fun _ _ _ z => nomatch z)
theorem snd_bl (b : Bool) : Snd G N (.bl b) := by
  intro S Wx sc X e c h
  cases e <;> try (simp [chk] at h; done)
  rename_i x i p
  cases x <;> try (simp [chk] at h; done)
  simp only [chk, beq_iff_eq] at h
  subst h
  exact snd_val (PEimp pe_bl (const_here (d := .bl b) (fun _ _ => by simp only [ev]) fun _ => .bl b)) (fun _ => rfl) (fun _ _ _ z => nomatch z)
theorem snd_int (b : Int) : Snd G N (.int b) := by
  intro S Wx sc X e c h
  cases e <;> try (simp [chk] at h; done)
  rename_i x i p
  cases x <;> try (simp [chk] at h; done)
  simp only [chk, decide_eq_true_eq] at h
  subst h
  exact snd_val (PEimp pe_int (const_here (d := .int b) (fun _ _ => by simp only [ev]) fun _ => .int b)) (fun _ => rfl) (fun _ _ _ z => nomatch z)
theorem snd_str (b : Str) : Snd G N (.str b) := by
  intro S Wx sc X e c h
  cases e <;> try (simp [chk] at h; done)
  rename_i x i p
  cases x <;> try (simp [chk] at h; done)
  simp only [chk, decide_eq_true_eq] at h
  subst h
  exact snd_val (PEimp pe_str (const_here (d := .str b) (fun _ _ => by simp only [ev]) fun _ => .str b)) (fun _ => rfl) (fun _ _ _ z => nomatch z)
/-! ### operators -/
section
variable {K : PySem.W.Frag} {σ : L2.St} {H Hd : Hp} {io : List Addr} {ro : List (Option W)} {st : Store} {Q : VK} {Q1 : VK}
theorem tM.go {m : M} {f : W → Store → R W} (l : Rl K Hd io st H) (rs : RelS K Hd io ro σ) (h : PX K (eX S Wx σ) Hd io H (RelW K) Q ((ev G m ro st).bind f))
    (k : ∀ v H1 Hd1 io1 w st1, Ext Hd io H Hd1 io1 H1 → Rl K Hd1 io1 st1 H1 → RelS K Hd1 io1 ro σ → RelW K Hd1 io1 w v → PX K (eX S Wx σ) Hd1 io1 H1 (RelW K) Q (f w st1) → Q1 v H1) : tM S Wx G K m σ H Q1 :=
  ⟨Hd, io, ro, st, l, rs, PX.bind h fun v H1 Hd1 io1 w st1 e1 l1 r1 q => k v H1 Hd1 io1 w st1 e1 l1 (rs.mono e1) r1 q⟩
end
theorem snd_bin (op : Operator) (a b : M) (ha : Snd G N a) (hb : Snd G N b) : Snd G N (.bin op a b) := by
  intro S Wx sc X e c h
  cases e <;> try (simp [chk] at h; done)
  rename_i x o y p
  simp only [chk, Bool.and_eq_true, decide_eq_true_eq] at h
  obtain ⟨⟨rfl, h1⟩, h2⟩ := h
  refine snd_val ?_ (fun _ => rfl) (fun _ _ _ z => nomatch z)
  refine PEimp (pe_op (op_bin op) (ha S Wx sc X _ c h1).1 (hb S Wx sc X _ c h2).1) fun σ H Q ⟨Hd, io, ro, st, l, rs, q⟩ => ?_
  simp only [ev] at q
  refine tM.go l rs q fun v H1 Hd1 io1 w st1 e1 l1 rs1 r1 q => ?_
  refine tM.go l1 rs1 q fun u H2 Hd2 io2 w2 st2 e2 l2 rs2 r2 q => ?_
  obtain ⟨d, hd, q⟩ := PX.okD q
  obtain ⟨x, y, p1, p2, hf⟩ := opt2_some hd
  exact ⟨Hd2, io2, st2, x, y, d, l2, peek_ok l2 (r1.mono e2) p1, peek_ok l2 r2 p2, hf, q⟩
theorem snd_neg (a : M) (ha : Snd G N a) : Snd G N (.neg a) := by
  intro S Wx sc X e c h
  cases e <;> try (simp [chk] at h; done)
  rename_i o y p
  cases o <;> try (simp [chk] at h; done)
  simp only [chk] at h
  refine snd_val ?_ (fun _ => rfl) (fun _ _ _ z => nomatch z)
  refine PEimp (pe_un un_neg (ha S Wx sc X _ c h).1) fun σ H Q ⟨Hd, io, ro, st, l, rs, q⟩ => ?_
  simp only [ev] at q
  refine tM.go l rs q fun v H1 Hd1 io1 w st1 e1 l1 rs1 r1 q => ?_
  split at q
  · rename_i i hp
    have := PkD.int (peek_ok l1 r1 hp)
    subst this
    exact ⟨i, rfl, PX.here q l1 (.int (-i))⟩
  · exact q.elim
def IsB (G : Gt) (m : M) : Prop := ∀ ro st w st', ev G m ro st = .ok w st' → ∃ b, w = .d (.bl b)
theorem tT_bool {K : PySem.W.Frag} {m : M} (hB : IsB G m) {σ : L2.St} {H : Hp} {Q : Bool → Hp → Prop} (h : tT S Wx G K m σ H Q) : tM S Wx G K m σ H fun x H' => ∃ k, x = .bl k ∧ Q k H' := by
  obtain ⟨Hd, io, ro, st, l, rs, h⟩ := h
  refine ⟨Hd, io, ro, st, l, rs, ?_⟩
  cases hr : ev G m ro st with
  | bad => rw [hr] at h; exact h.elim
  | exc x s => rw [hr] at h; exact h
  | ok w st1 =>
    obtain ⟨b, rfl⟩ := hB ro st w st1 hr
    rw [hr] at h
    intro v Hd1 io1 H1 e1 l1 r1
    cases r1
    exact ⟨b, rfl, PX.here (PX.ext e1 (show PX K _ Hd io H RelB Q (R.ok b st1) from h)) l1 rfl⟩
theorem cmp_isB (op : CmpOp) (a b : M) : IsB G (.cmp op a b) := by
  intro ro st w st' h
  simp only [ev] at h
  cases h1 : ev G a ro st with
  | bad => rw [h1] at h; cases h
  | exc _ _ => rw [h1] at h; cases h
  | ok wa st1 =>
    rw [h1, R.bind_ok] at h
    cases h2 : ev G b ro st1 with
    | bad => rw [h2] at h; cases h
    | exc _ _ => rw [h2] at h; cases h
    | ok wb st2 =>
      rw [h2, R.bind_ok] at h
      cases h3 : opt2 st2 wa wb (cmpD op) with
      | none => rw [h3] at h; cases h
      | some z => rw [h3] at h; cases h; exact ⟨z, rfl⟩
theorem room65 (c : CtxOk G N S Wx sc X) : X.A.units + 65 < cLine := c.room
theorem snd_cmp (op : CmpOp) (a b : M) (ha : Snd G N a) (hb : Snd G N b) : Snd G N (.cmp op a b) := by
  intro S Wx sc X e c h
  cases e <;> try (simp [chk] at h; done)
  rename_i x ops ys p
  match ops, ys, h with
  | [o], [y], h =>
    simp only [chk, Bool.and_eq_true, decide_eq_true_eq] at h
    obtain ⟨⟨⟨rfl, h1⟩, h2⟩, h3⟩ := h
    have key : ∀ σ H Q, tM S Wx G X.K (.cmp op a b) σ H Q → tOp (rC2 X.K (cmpD op)) (tM S Wx G X.K a) (tM S Wx G X.K b) σ H Q := fun σ H Q ⟨Hd, io, ro, st, l, rs, q⟩ => by
      simp only [ev] at q
      refine tM.go l rs q fun v H1 Hd1 io1 w st1 e1 l1 rs1 r1 q => ?_
      refine tM.go l1 rs1 q fun u H2 Hd2 io2 w2 st2 e2 l2 rs2 r2 q => ?_
      obtain ⟨d, hd, q⟩ := PX.okB q
      obtain ⟨x, y, p1, p2, hf⟩ := opt2_some hd
      exact rC2_of l2 (peek_ok l2 (r1.mono e2) p1) (peek_ok l2 r2 p2) hf (Post.here q l2 (.bl d))
    refine ⟨PEimp (pe_cmpR (op_cmp c.room op) (ha S Wx sc X _ c h1).1 (hb S Wx sc X _ c h2).1 (behind_of h3)) key, ?_, fun _ _ _ z => nomatch z⟩
    exact PTimp (pt_cmpR (op_cmp c.room op) (ha S Wx sc X _ c h1).1 (hb S Wx sc X _ c h2).1 (behind_of h3)) fun σ H Q q => key _ _ _ (tT_bool (cmp_isB op a b) q)
  | [], _, h => simp [chk] at h
  | [_], [], h => simp [chk] at h
  | [_], _ :: _ :: _, h => simp [chk] at h
  | _ :: _ :: _, _, h => simp [chk] at h
end Ev
set_option Elab.async false
set_option linter.all false
set_option maxRecDepth 100000
set_option maxHeartbeats 4000000
namespace Ev
open PySem PySem.Spec PyProof.Rows L2
/-! ### a thing being made, which nobody sees yet -/
section
variable {K : PySem.W.Frag} {Hd Hd2 H H2 : Hp} {io io2 : List Addr} {st st2 : Store} {p : Addr} {o0 o : HO}
theorem Rl.hide (l : Rl K Hd io st H) (hp : H p = none) : Rl K Hd io st (upd H p o0) := by
  have hd := l.fresh hp
  have np : ∀ a ∈ io, a ≠ p := fun a ha z => l.liv a ha (by rw [z]; exact hp)
  refine ⟨l.sub.trans (Le.upd hp), l.nd, l.len, fun n a c h1 h2 => ?_, fun a ha => by rw [upd_ne (np a ha)]; exact l.liv a ha⟩
  have hc := l.cel n a c h1 h2
  have na := np a (List.mem_of_getElem? h1)
  cases c with
  | lst ds => obtain ⟨h3, vs, h4, h5⟩ := hc; exact ⟨h3, vs, by rw [upd_ne na]; exact h4, h5⟩
  | dic kvs => obtain ⟨h3, vs, h4, h5⟩ := hc; exact ⟨h3, vs, by rw [upd_ne na]; exact h4, h5⟩
  | frz ds => exact hc
  | obj c fs =>
    obtain ⟨h3, dx, vs, h4, h5, h6, h7, h8⟩ := hc
    have nx : dx ≠ p := fun z => by rw [z, hp] at h5; cases h5
    exact ⟨h3, dx, vs, by rw [upd_ne na]; exact h4, by rw [upd_ne nx]; exact h5, h6, h7, h8⟩
theorem Ext.unhide (e : Ext Hd io (upd H p o0) Hd2 io2 H2) (hp : H p = none) : Ext Hd io H Hd2 io2 H2 := by
  have back : ∀ a, upd H p o0 a = none → H a = none := fun a h => by
    by_cases z : a = p
    · rw [z]; exact hp
    · rw [upd_ne z] at h; exact h
  obtain ⟨r, e1, n1⟩ := e.pre
  refine ⟨e.hd, fun a h1 h2 => ?_, ⟨r, e1, fun a ha => back a (n1 a ha)⟩, fun a u h hn => e.fr a u (Le.upd hp a u h) hn, fun a h => back a (e.liv a h)⟩
  rcases e.new a h1 h2 with z | z
  · exact .inl (back a z)
  · exact .inr z
theorem Ext.hidden (l : Rl K Hd io st H) (e : Ext Hd io (upd H p o0) Hd2 io2 H2) (hp : H p = none) : Hd2 p = none ∧ p ∉ io2 ∧ H2 p = some o0 := by
  have hd := l.fresh hp
  have np : p ∉ io := fun ha => l.liv p ha hp
  obtain ⟨r, e1, n1⟩ := e.pre
  refine ⟨?_, fun z => ?_, e.fr p o0 upd_same np⟩
  · cases q : Hd2 p with
    | none => rfl
    | some u =>
      rcases e.new p hd (by rw [q]; simp) with z | z
      · rw [upd_same] at z; cases z
      · exact absurd z np
  · rw [e1] at z
    rcases List.mem_append.mp z with z | z
    · exact np z
    · have := n1 p z; rw [upd_same] at this; cases this
theorem Rl.adoptC (l : Rl K Hd2 io2 st2 H2) (e : Ext Hd io H Hd2 io2 H2) (hp : H p = none) (hd : Hd2 p = none) (hn : p ∉ io2) (hno : ∀ x, H2 p ≠ some (.own x)) {c : Cell} (hc : CellOk K Hd2 (io2 ++ [p]) (upd H2 p o) p c) :
    Rl K Hd2 (io2 ++ [p]) (st2 ++ [c]) (upd H2 p o) ∧ Ext Hd io H Hd2 (io2 ++ [p]) (upd H2 p o) := by
  have np : ∀ a ∈ io2, a ≠ p := fun a ha z => hn (by rw [← z]; exact ha)
  have leU : Le Hd2 (upd H2 p o) := fun a u q => by
    rw [upd_ne (fun z => by rw [z, hd] at q; cases q)]; exact l.sub _ _ q
  obtain ⟨r, e1, n1⟩ := e.pre
  refine ⟨⟨leU, ?_, by simp [l.len], fun n a c' h1 h2 => ?_, fun a ha => ?_⟩, ⟨e.hd, e.new, ⟨r ++ [p], by rw [e1, List.append_assoc], fun a ha => ?_⟩, fun a u h hn => ?_, fun a h => ?_⟩⟩
  · refine List.nodup_append.mpr ⟨l.nd, by simp, fun a ha b hb => ?_⟩
    rw [List.mem_singleton.mp hb]; exact np a ha
  · by_cases hn : n < io2.length
    · rw [List.getElem?_append_left hn] at h1
      rw [List.getElem?_append_left (by rw [← l.len]; exact hn)] at h2
      have hc := l.cel n a c' h1 h2
      have na := np a (List.mem_of_getElem? h1)
      cases c' with
      | lst ds => obtain ⟨h3, vs, h4, h5⟩ := hc; exact ⟨h3, vs, by rw [upd_ne na]; exact h4, h5⟩
      | dic kvs => obtain ⟨h3, vs, h4, h5⟩ := hc; exact ⟨h3, vs, by rw [upd_ne na]; exact h4, h5⟩
      | frz ds => exact hc
      | obj c fs =>
        obtain ⟨h3, dx, vs, h4, h5, h6, h7, h8⟩ := hc
        have nx : dx ≠ p := fun z => hno _ (by rw [← z]; exact h5)
        refine ⟨h3, dx, vs, by rw [upd_ne na]; exact h4, by rw [upd_ne nx]; exact h5, h6, fun z => ?_, h8.more (Le.refl _)⟩
        rcases List.mem_append.mp z with z | z
        · exact h7 z
        · exact nx (List.mem_singleton.mp z)
    · rw [List.getElem?_append_right (by omega)] at h1
      rw [List.getElem?_append_right (by rw [← l.len]; omega)] at h2
      have e0 : n - io2.length = 0 := by
        have := (List.getElem?_eq_some_iff.mp h1).1
        simp at this; omega
      rw [e0] at h1
      rw [← l.len, e0] at h2
      simp at h1 h2
      subst h1 h2
      exact hc
  · rcases List.mem_append.mp ha with z | z
    · rw [upd_ne (np a z)]; exact l.liv a z
    · rw [List.mem_singleton.mp z, upd_same]; simp
  · rcases List.mem_append.mp ha with z | z
    · exact n1 a z
    · rw [List.mem_singleton.mp z]; exact hp
  · rw [upd_ne (ne_of_none h hp)]; exact e.fr a u h hn
  · by_cases z : a = p
    · rw [z]; exact hp
    · rw [upd_ne z] at h; exact e.liv a h
theorem Rl.adoptD (l : Rl K Hd2 io2 st2 H2) (e : Ext Hd io H Hd2 io2 H2) (hp : H p = none) (hd : Hd2 p = none) (hn : p ∉ io2) (h2 : H2 p = some o) (hno : ∀ x, o ≠ .own x) :
    Rl K (upd Hd2 p o) io2 st2 H2 ∧ Ext Hd io H (upd Hd2 p o) io2 H2 := by
  have np : ∀ a ∈ io2, a ≠ p := fun a ha z => hn (by rw [← z]; exact ha)
  have le := Le.upd (o := o) hd
  refine ⟨⟨fun a u q => ?_, l.nd, l.len, fun n a c h1 hc2 => ?_, l.liv⟩, ⟨e.hd.trans le, fun a h1 h2 => ?_, e.pre, e.fr, e.liv⟩⟩
  · by_cases z : a = p
    · rw [z, upd_same] at q; cases q; rw [z]; exact h2
    · rw [upd_ne z] at q; exact l.sub _ _ q
  · have hc := l.cel n a c h1 hc2
    have na := np a (List.mem_of_getElem? h1)
    cases c with
    | lst ds => obtain ⟨h3, vs, h4, h5⟩ := hc; exact ⟨by rw [upd_ne na]; exact h3, vs, h4, h5.mono le⟩
    | dic kvs => obtain ⟨h3, vs, h4, h5⟩ := hc; exact ⟨by rw [upd_ne na]; exact h3, vs, h4, h5.mono le⟩
    | frz ds => exact RelD.mono le hc
    | obj c fs =>
      obtain ⟨h3, dx, vs, h4, h5, h6, h7, h8⟩ := hc
      have nx : dx ≠ p := fun z => by rw [z, h2] at h5; cases h5; exact hno _ rfl
      exact ⟨by rw [upd_ne na]; exact h3, dx, vs, h4, h5, by rw [upd_ne nx]; exact h6, h7, h8.le le⟩
  · by_cases z : a = p
    · rw [z]; exact .inl hp
    · rw [upd_ne z] at h2; exact e.new a h1 h2
end
variable {G : Gt} {N : List Str} {S : IsX} {Wx : WX} {sc : Scope} {X : Cx}
theorem lastMarks_of {op op' : CmpOp} {x y : Expr} (h : noSet y = true) : lastMarks [op, op'] [x, y] = false := behind_of h
theorem chain_isB (op op' : CmpOp) (a b c : M) : IsB G (.chain op op' a b c) := by
  intro ro st w st' h
  simp only [ev] at h
  cases h1 : ev G a ro st with
  | bad => rw [h1] at h; cases h
  | exc _ _ => rw [h1] at h; cases h
  | ok wa st1 =>
    rw [h1, R.bind_ok] at h
    cases h2 : ev G b ro st1 with
    | bad => rw [h2] at h; cases h
    | exc _ _ => rw [h2] at h; cases h
    | ok wb st2 =>
      rw [h2, R.bind_ok] at h
      cases h3 : opt2 st2 wa wb (cmpD op) with
      | none => rw [h3] at h; cases h
      | some z =>
        rw [h3] at h
        cases z with
        | false => cases h; exact ⟨_, rfl⟩
        | true =>
          dsimp only at h
          cases h4 : ev G c ro st2 with
          | bad => rw [h4] at h; cases h
          | exc _ _ => rw [h4] at h; cases h
          | ok wc st3 =>
            rw [h4, R.bind_ok] at h
            cases h5 : opt2 st3 wb wc (cmpD op') with
            | none => rw [h5] at h; cases h
            | some z => rw [h5] at h; cases h; exact ⟨z, rfl⟩
theorem snd_chain (op op' : CmpOp) (a b d : M) (ha : Snd G N a) (hb : Snd G N b) (hd : Snd G N d) : Snd G N (.chain op op' a b d) := by
  intro S Wx sc X e c h
  cases e <;> try (simp [chk] at h; done)
  rename_i x ops ys p
  match ops, ys, h with
  | [o, o'], [y, z], h =>
    simp only [chk, Bool.and_eq_true, decide_eq_true_eq] at h
    obtain ⟨⟨⟨⟨⟨rfl, rfl⟩, h1⟩, h2⟩, h3⟩, h4⟩ := h
    have key : ∀ σ H Q, tM S Wx G X.K (.chain op op' a b d) σ H Q → tChain (rC2 X.K (cmpD op)) (rC2 X.K (cmpD op')) (tM S Wx G X.K a) (tM S Wx G X.K b) (tM S Wx G X.K d) σ H Q := fun σ H Q ⟨Hd, io, ro, st, l, rs, q⟩ => by
      simp only [ev] at q
      refine tM.go l rs q fun v H1 Hd1 io1 w st1 e1 l1 rs1 r1 q => ?_
      refine tM.go l1 rs1 q fun u H2 Hd2 io2 w2 st2 e2 l2 rs2 r2 q => ?_
      cases hp : opt2 st2 w w2 (cmpD op) with
      | none => rw [hp] at q; exact q.elim
      | some k =>
        rw [hp] at q
        obtain ⟨x, y, p1, p2, hf⟩ := opt2_some hp
        refine rC2_of l2 (peek_ok l2 (r1.mono e2) p1) (peek_ok l2 r2 p2) hf ⟨k, rfl, ?_⟩
        cases k with
        | false => exact PX.here q l2 (.bl false)
        | true =>
          dsimp only at q
          refine tM.go l2 rs2 q fun t H3 Hd3 io3 w3 st3 e3 l3 rs3 r3 q => ?_
          obtain ⟨z, hz, q⟩ := PX.okB q
          obtain ⟨x', y', p1', p2', hf'⟩ := opt2_some hz
          exact rC2_of l3 (peek_ok l3 (r2.mono e3) p1') (peek_ok l3 r3 p2') hf' (Post.here q l3 (.bl z))
    refine ⟨PEimp (pe_chain (op_cmp c.room op) (op_cmp c.room op') (ha S Wx sc X _ c h1).1 (hb S Wx sc X _ c h2).1 (hd S Wx sc X _ c h3).1 (lastMarks_of h4)) key, ?_, fun _ _ _ z => nomatch z⟩
    exact PTimp (pt_chain (op_cmp c.room op) (op_cmp c.room op') (ha S Wx sc X _ c h1).1 (hb S Wx sc X _ c h2).1 (hd S Wx sc X _ c h3).1 (lastMarks_of h4)) fun σ H Q q => key _ _ _ (tT_bool (chain_isB op op' a b d) q)
  | [], _, h => simp [chk] at h
  | [_], _, h => simp [chk] at h
  | [_, _], [], h => simp [chk] at h
  | [_, _], [_], h => simp [chk] at h
  | [_, _], _ :: _ :: _ :: _, h => simp [chk] at h
  | _ :: _ :: _ :: _, _, h => simp [chk] at h
/-! ### and, or, not, if -/
theorem tst_and {α : Type} {r : R W} {A : Store → R W} {g : Bool → Store → R α} : ((r.tst fun k w st => if k = true then A st else .ok w st).tst fun b _ st => g b st) = r.tst fun k _ st => if k = true then (A st).tst fun b _ st => g b st else g false st := by
  cases r with
  | bad => rfl
  | exc x s => rfl
  | ok w st =>
    simp only [R.tst, R.bind_ok]
    cases h : truth st w with
    | none => rfl
    | some b => cases b <;> simp [h]
theorem tst_or {α : Type} {r : R W} {A : Store → R W} {g : Bool → Store → R α} : ((r.tst fun k w st => if k = true then .ok w st else A st).tst fun b _ st => g b st) = r.tst fun k _ st => if k = true then g true st else (A st).tst fun b _ st => g b st := by
  cases r with
  | bad => rfl
  | exc x s => rfl
  | ok w st =>
    simp only [R.tst, R.bind_ok]
    cases h : truth st w with
    | none => rfl
    | some b => cases b <;> simp [h]
theorem tst_not {α : Type} {r : R W} {g : Bool → Store → R α} : ((r.tst fun k _ st => .ok (.d (.bl (!k))) st).tst fun b _ st => g b st) = r.tst fun k _ st => g (!k) st := by
  cases r with
  | bad => rfl
  | exc x s => rfl
  | ok w st =>
    simp only [R.tst, R.bind_ok]
    cases h : truth st w with
    | none => rfl
    | some b => rfl
theorem tst_ite {α : Type} {r : R W} {A B : Store → R W} {g : Bool → Store → R α} : ((r.tst fun k _ st => if k = true then A st else B st).tst fun b _ st => g b st) = r.tst fun k _ st => if k = true then (A st).tst fun b _ st => g b st else (B st).tst fun b _ st => g b st := by
  cases r with
  | bad => rfl
  | exc x s => rfl
  | ok w st =>
    simp only [R.tst, R.bind_ok]
    cases h : truth st w with
    | none => rfl
    | some b => cases b <;> rfl
section
variable {K : PySem.W.Frag} {σ : L2.St} {H Hd : Hp} {io : List Addr} {ro : List (Option W)} {st : Store} {Q : Bool → Hp → Prop} {Q1 : Bool → Hp → Prop}
theorem tT.go {α β : Type} {Rel2 : Hp → List Addr → α → β → Prop} {Q : β → Hp → Prop} {m : M} {f : Bool → Store → R α} (l : Rl K Hd io st H) (rs : RelS K Hd io ro σ) (h : PX K (eX S Wx σ) Hd io H Rel2 Q ((ev G m ro st).tst fun b _ st => f b st))
    (k : ∀ b H1 Hd1 io1 st1, Ext Hd io H Hd1 io1 H1 → Rl K Hd1 io1 st1 H1 → RelS K Hd1 io1 ro σ → PX K (eX S Wx σ) Hd1 io1 H1 Rel2 Q (f b st1) → Q1 b H1) : tT S Wx G K m σ H Q1 :=
  ⟨Hd, io, ro, st, l, rs, PX.tstB (fun _ _ _ _ => rfl) h fun H1 Hd1 io1 w st1 b e1 l1 q => k b H1 Hd1 io1 st1 e1 l1 (rs.mono e1) q⟩
end
theorem snd_and (a b : M) (ha : Snd G N a) (hb : Snd G N b) : Snd G N (.and2 a b) := by
  intro S Wx sc X e c h
  cases e <;> try (simp [chk] at h; done)
  rename_i op vs p
  have key : ∀ σ H Q, tM S Wx G X.K (.and2 a b) σ H Q → tAndT X.K (tM S Wx G X.K a) (tM S Wx G X.K b) σ H Q := fun σ H Q ⟨Hd, io, ro, st, l, rs, q⟩ => by
    simp only [ev] at q
    refine ⟨Hd, io, ro, st, l, rs, PX.tst q fun v H1 Hd1 io1 w st1 k e1 l1 r1 t q => ⟨k, t, ?_⟩⟩
    cases k with
    | true => exact ⟨Hd1, io1, ro, st1, l1, rs.mono e1, q⟩
    | false => exact PX.here q l1 r1
  have keyT : ∀ σ H Q, tT S Wx G X.K (.and2 a b) σ H Q → tAnd (tT S Wx G X.K a) (tT S Wx G X.K b) σ H Q := fun σ H Q ⟨Hd, io, ro, st, l, rs, q⟩ => by
    simp only [ev] at q
    rw [tst_and] at q
    refine tT.go l rs q fun k H1 Hd1 io1 st1 e1 l1 rs1 q => ?_
    cases k with
    | true => exact ⟨Hd1, io1, ro, st1, l1, rs1, q⟩
    | false => exact PX.here q l1 rfl
  cases op with
  | Or => simp [chk] at h
  | And =>
    match vs, h with
    | [x, y], h =>
      simp only [chk, Bool.and_eq_true] at h
      have A := ha S Wx sc X _ c h.1
      have B := hb S Wx sc X _ c h.2
      have PWW := PWimp (pw_and (pos := p) A.2.1 (pw_and1 B.2.1)) keyT
      exact ⟨PEimp (pe_andT A.1 (pe_one B.1)) key, PWW.pt, fun _ _ _ z => by cases z; exact PWW⟩
    | x :: y :: z :: r, h =>
      simp only [chk, Bool.and_eq_true] at h
      have A := ha S Wx sc X _ c h.1
      have B := hb S Wx sc X _ c h.2
      have PWW := PWimp (pw_and (pos := p) A.2.1 (B.2.2 _ _ _ rfl)) keyT
      exact ⟨PEimp (pe_andT A.1 B.1) key, PWW.pt, fun _ _ _ z => by cases z; exact PWW⟩
    | [], h => simp [chk] at h
    | [_], h => simp [chk] at h
theorem snd_or (a b : M) (ha : Snd G N a) (hb : Snd G N b) : Snd G N (.or2 a b) := by
  intro S Wx sc X e c h
  cases e <;> try (simp [chk] at h; done)
  rename_i op vs p
  have key : ∀ σ H Q, tM S Wx G X.K (.or2 a b) σ H Q → tOrT X.K (tM S Wx G X.K a) (tM S Wx G X.K b) σ H Q := fun σ H Q ⟨Hd, io, ro, st, l, rs, q⟩ => by
    simp only [ev] at q
    refine ⟨Hd, io, ro, st, l, rs, PX.tst q fun v H1 Hd1 io1 w st1 k e1 l1 r1 t q => ⟨k, t, ?_⟩⟩
    cases k with
    | false => exact ⟨Hd1, io1, ro, st1, l1, rs.mono e1, q⟩
    | true => exact PX.here q l1 r1
  have keyT : ∀ σ H Q, tT S Wx G X.K (.or2 a b) σ H Q → tOr (tT S Wx G X.K a) (tT S Wx G X.K b) σ H Q := fun σ H Q ⟨Hd, io, ro, st, l, rs, q⟩ => by
    simp only [ev] at q
    rw [tst_or] at q
    refine tT.go l rs q fun k H1 Hd1 io1 st1 e1 l1 rs1 q => ?_
    cases k with
    | false => exact ⟨Hd1, io1, ro, st1, l1, rs1, q⟩
    | true => exact PX.here q l1 rfl
  cases op with
  | And => simp [chk] at h
  | Or =>
    match vs, h with
    | [x, y], h =>
      simp only [chk, Bool.and_eq_true] at h
      have A := ha S Wx sc X _ c h.1
      have B := hb S Wx sc X _ c h.2
      have PWW := PWimp (pw_or (pos := p) A.2.1 (pw_or1 B.2.1)) keyT
      exact ⟨PEimp (pe_orT A.1 (pe_one B.1)) key, PWW.pt, fun _ _ _ z => by cases z; exact PWW⟩
    | x :: y :: z :: r, h =>
      simp only [chk, Bool.and_eq_true] at h
      have A := ha S Wx sc X _ c h.1
      have B := hb S Wx sc X _ c h.2
      have PWW := PWimp (pw_or (pos := p) A.2.1 (B.2.2 _ _ _ rfl)) keyT
      exact ⟨PEimp (pe_orT A.1 B.1) key, PWW.pt, fun _ _ _ z => by cases z; exact PWW⟩
    | [], h => simp [chk] at h
    | [_], h => simp [chk] at h
theorem snd_not (a : M) (ha : Snd G N a) : Snd G N (.not a) := by
  intro S Wx sc X e c h
  cases e <;> try (simp [chk] at h; done)
  rename_i o y p
  cases o <;> try (simp [chk] at h; done)
  simp only [chk] at h
  have A := ha S Wx sc X _ c h
  refine ⟨PEimp (pe_notT A.1) fun σ H Q ⟨Hd, io, ro, st, l, rs, q⟩ => ?_, PTimp (pt_not A.2.1) fun σ H Q ⟨Hd, io, ro, st, l, rs, q⟩ => ?_, fun _ _ _ z => nomatch z⟩
  · simp only [ev] at q
    exact ⟨Hd, io, ro, st, l, rs, PX.tst q fun v H1 Hd1 io1 w st1 k e1 l1 r1 t q => ⟨k, t, PX.here q l1 (.bl _)⟩⟩
  · simp only [ev] at q
    rw [tst_not] at q
    exact tT.go l rs q fun k H1 Hd1 io1 st1 e1 l1 rs1 q => PX.here q l1 rfl
theorem pt_ifE {c a b : Expr} {pos : Pos} {t t1 t2 : TT} (hc : PT X c t) (ha : PT X a t1) (hb : PT X b t2) : PT X (.IfExp c a b pos) fun σ H Q => t σ H fun k H1 => if k = true then t1 σ H1 Q else t2 σ H1 Q := by
  refine ⟨fun pins s σ H Q I h => ?_⟩
  show wpAny (model X.prog X.w) X.A (do
    if ← PySem.isTrue c X.env (eval c X.env) then PySem.isTrue a X.env (eval a X.env) else PySem.isTrue b X.env (eval b X.env)) (TP X pins σ Q) X.xe s
  refine wpAny_bind (thn (hc.run pins s σ H _ I h) fun d s1 ⟨H1, I1, q1⟩ => ?_)
  cases d with
  | true => exact ha.run pins s1 σ H1 Q I1 q1
  | false => exact hb.run pins s1 σ H1 Q I1 q1
theorem snd_ite (t a b : M) (ht : Snd G N t) (ha : Snd G N a) (hb : Snd G N b) : Snd G N (.ite t a b) := by
  intro S Wx sc X e c h
  cases e <;> try (simp [chk] at h; done)
  simp only [chk, Bool.and_eq_true] at h
  have T := ht S Wx sc X _ c h.1.1
  have A := ha S Wx sc X _ c h.1.2
  have B := hb S Wx sc X _ c h.2
  refine ⟨PEimp (pe_ifExp T.2.1 A.1 B.1) fun σ H Q ⟨Hd, io, ro, st, l, rs, q⟩ => ?_, PTimp (pt_ifE T.2.1 A.2.1 B.2.1) fun σ H Q ⟨Hd, io, ro, st, l, rs, q⟩ => ?_, fun _ _ _ z => nomatch z⟩
  · simp only [ev] at q
    refine tT.go l rs q fun k H1 Hd1 io1 st1 e1 l1 rs1 q => ?_
    cases k with
    | true => exact ⟨Hd1, io1, ro, st1, l1, rs1, q⟩
    | false => exact ⟨Hd1, io1, ro, st1, l1, rs1, q⟩
  · simp only [ev] at q
    rw [tst_ite] at q
    refine tT.go l rs q fun k H1 Hd1 io1 st1 e1 l1 rs1 q => ?_
    cases k with
    | true => exact ⟨Hd1, io1, ro, st1, l1, rs1, q⟩
    | false => exact ⟨Hd1, io1, ro, st1, l1, rs1, q⟩
/-! ### arguments -/
def AllSnd (G : Gt) (N : List Str) : Ms → Prop
  | .nil => True
  | .cons m r => Snd G N m ∧ AllSnd G N r
theorem snds {m : Ms} (hm : AllSnd G N m) : SndA G N m := by
  intro S Wx sc X es c h
  induction es generalizing m with
  | nil =>
    cases m with
    | nil =>
      refine PAimp pa_nil fun σ H Q ⟨Hd, io, ro, st, l, rs, q⟩ => ?_
      simp only [evs] at q
      exact PX.here q l RelWs.nil
    | cons m r => simp [chks] at h
  | cons e es ih =>
    cases m with
    | nil => simp [chks] at h
    | cons m r =>
      simp only [chks, Bool.and_eq_true] at h
      refine PAimp (pa_cons (hm.1 S Wx sc X _ c h.1.2).1 (ih hm.2 h.2) (star_plain h.1.1)) fun σ H Q ⟨Hd, io, ro, st, l, rs, q⟩ => ?_
      simp only [evs] at q
      refine ⟨Hd, io, ro, st, l, rs, PX.bind q fun v H1 Hd1 io1 w st1 e1 l1 r1 q => ?_⟩
      exact ⟨Hd1, io1, ro, st1, l1, rs.mono e1, PX.bind q fun vs H2 Hd2 io2 ws st2 e2 l2 r2 q => PX.here q l2 (.cons (r1.mono e2) r2)⟩
end Ev
set_option Elab.async false
set_option linter.all false
set_option maxRecDepth 100000
set_option maxHeartbeats 1000000
namespace Ev
open PySem PySem.Spec PyProof.Rows L2
variable {G : Gt} {N : List Str} {S : IsX} {Wx : WX} {sc : Scope} {X : Cx}
section
variable {α β : Type} {Rel2 : Hp → List Addr → α → β → Prop} {K : PySem.W.Frag} {σ : L2.St} {H Hd : Hp} {io : List Addr} {ro : List (Option W)} {st : Store} {Q : β → Hp → Prop} {Q1 : List V → Hp → Prop}
theorem tMs.go {m : Ms} {f : List W → Store → R α} (l : Rl K Hd io st H) (rs : RelS K Hd io ro σ) (h : PX K (eX S Wx σ) Hd io H Rel2 Q ((evs G m ro st).bind f))
    (k : ∀ v H1 Hd1 io1 w st1, Ext Hd io H Hd1 io1 H1 → Rl K Hd1 io1 st1 H1 → RelS K Hd1 io1 ro σ → RelWs K Hd1 io1 w v → PX K (eX S Wx σ) Hd1 io1 H1 Rel2 Q (f w st1) → Q1 v H1) : tMs S Wx G K m σ H Q1 :=
  ⟨Hd, io, ro, st, l, rs, PX.bind h fun v H1 Hd1 io1 w st1 e1 l1 r1 q => k v H1 Hd1 io1 w st1 e1 l1 (rs.mono e1) r1 q⟩
end
theorem size1000 {n : Nat} (h : n ≤ 1000) : n ≤ sizeLine := Nat.le_trans h (by rw [sizeLine_eq]; decide)
theorem snd_tup (es : Ms) (hs : AllSnd G N es) : Snd G N (.tup es) := by
  intro S Wx sc X e c h
  cases e <;> try (simp [chk] at h; done)
  simp only [chk] at h
  refine snd_val ?_ (fun _ => rfl) (fun _ _ _ z => nomatch z)
  refine PEimp (pe_tup (snds hs S Wx sc X _ c h)) fun σ H Q ⟨Hd, io, ro, st, l, rs, q⟩ => ?_
  simp only [ev] at q
  refine tMs.go l rs q fun vs H1 Hd1 io1 ws st1 e1 l1 rs1 r1 q => ?_
  obtain ⟨ds, Hd2, st2, e2, l2, r2, q⟩ := keepAll_bind l1 r1 q
  split at q
  · rename_i hz
    exact ⟨by rw [r2.length]; exact size1000 hz, fun p hp => Post.newTup q l2 r2 hp⟩
  · exact q.elim
theorem snd_lst (es : Ms) (hs : AllSnd G N es) : Snd G N (.lst es) := by
  intro S Wx sc X e c h
  cases e <;> try (simp [chk] at h; done)
  simp only [chk] at h
  refine snd_val ?_ (fun _ => rfl) (fun _ _ _ z => nomatch z)
  refine PEimp (pe_lst (snds hs S Wx sc X _ c h)) fun σ H Q ⟨Hd, io, ro, st, l, rs, q⟩ => ?_
  simp only [ev] at q
  refine tMs.go l rs q fun vs H1 Hd1 io1 ws st1 e1 l1 rs1 r1 q => ?_
  obtain ⟨ds, Hd2, st2, e2, l2, r2, q⟩ := keepAll_bind l1 r1 q
  split at q
  · rename_i hz
    exact ⟨by rw [r2.length]; exact size1000 hz, fun p hp => Post.newLst q l2 r2 hp⟩
  · exact q.elim
theorem relW_last {K : PySem.W.Frag} {Hd : Hp} {io : List Addr} {st : Store} {H : Hp} (l : Rl K Hd io st H) {p : Addr} : RelW K Hd (io ++ [p]) (.cell st.length) (.ref p) :=
  ⟨p, rfl, by rw [← l.len]; simp⟩
theorem snd_nlst : Snd G N .nlst := by
  intro S Wx sc X e c h
  cases e <;> try (simp [chk] at h; done)
  rename_i es p
  cases es with
  | cons _ _ => simp [chk] at h
  | nil =>
    refine snd_val ?_ (fun _ => rfl) (fun _ _ _ z => nomatch z)
    refine PEimp (pe_lst pa_nil) fun σ H Q ⟨Hd, io, ro, st, l, rs, q⟩ => ?_
    simp only [ev] at q
    refine ⟨Nat.zero_le _, fun p hp => ?_⟩
    obtain ⟨l', e'⟩ := l.newC (o := .lst []) (c := .lst []) hp ⟨l.fresh hp, [], upd_same, .nil⟩
    exact q _ _ _ _ e' l' (relW_last l)
theorem snd_ndic : Snd G N .ndic := by
  intro S Wx sc X e c h
  cases e <;> try (simp [chk] at h; done)
  rename_i ks vs p
  cases ks with
  | cons _ _ => simp [chk] at h
  | nil =>
    cases vs with
    | cons _ _ => simp [chk] at h
    | nil =>
      refine snd_val ?_ (fun _ => rfl) (fun _ _ _ z => nomatch z)
      refine PEimp pe_dnewK fun σ H Q ⟨Hd, io, ro, st, l, rs, q⟩ => ?_
      simp only [ev] at q
      intro p hp
      obtain ⟨l', e'⟩ := l.newC (o := .dK []) (c := .dic []) hp ⟨l.fresh hp, [], upd_same, .nil⟩
      exact q _ _ _ _ e' l' (relW_last l)
/-! ### a dict's display -/
def pairTs (S : IsX) (Wx : WX) (G : Gt) (K : PySem.W.Frag) : List Str → Ms → List (TE × TE)
  | k :: ks, .cons m r => (tC (.str k), tM S Wx G K m) :: pairTs S Wx G K ks r
  | _, _ => []
theorem pps_all (c : CtxOk G N S Wx sc X) {pos : Pos} : ∀ {ks : List Str} {keys : List (Option Expr)} {m : Ms} {vals : List Expr}, keysAre ks keys = true → chks N sc m vals = true → ks.length = vals.length → AllSnd G N m → PPs X pos keys vals (pairTs S Wx G X.K ks m)
  | [], [], .nil, [], _, _, _, _ => pps_nil
  | [], [], .nil, _ :: _, _, h, _, _ => by simp [chks] at h
  | [], [], .cons _ _, [], _, h, _, _ => by simp [chks] at h
  | [], [], .cons _ _, _ :: _, _, _, h, _ => by simp at h
  | [], _ :: _, _, _, h, _, _, _ => by simp [keysAre] at h
  | _ :: _, [], _, _, h, _, _, _ => by simp [keysAre] at h
  | k :: ks, key :: keys, .nil, [], _, _, h, _ => by simp at h
  | k :: ks, key :: keys, .nil, _ :: _, _, h, _, _ => by simp [chks] at h
  | k :: ks, key :: keys, .cons m r, [], _, h, _, _ => by simp [chks] at h
  | k :: ks, key :: keys, .cons m r, v :: vals, hk, hc, hl, hs => by
    simp only [chks, Bool.and_eq_true] at hc
    have rest : keysAre ks keys = true → PPs X pos keys vals (pairTs S Wx G X.K ks r) := fun z => pps_all c z hc.2 (by simpa using hl) hs.2
    match key, hk with
    | some (.Constant (.str z) j p), hk =>
      simp only [keysAre, Bool.and_eq_true, decide_eq_true_eq] at hk
      obtain ⟨rfl, hk⟩ := hk
      exact pps_cons pe_str (hs.1 S Wx sc X _ c hc.1.2).1 (rest hk)
theorem keysAre_some : ∀ {ks : List Str} {keys : List (Option Expr)}, keysAre ks keys = true → (keys.all fun x => x.isSome) = true ∧ keys.length = ks.length
  | [], [], _ => ⟨rfl, rfl⟩
  | [], _ :: _, h => by simp [keysAre] at h
  | _ :: _, [], h => by simp [keysAre] at h
  | k :: ks, key :: keys, h => by
    match key, h with
    | some (.Constant (.str z) j p), h =>
      simp only [keysAre, Bool.and_eq_true, decide_eq_true_eq] at h
      obtain ⟨h1, h2⟩ := keysAre_some h.2
      exact ⟨by simp [h1], by simp [h2]⟩
def msLen : Ms → Nat
  | .nil => 0
  | .cons _ r => msLen r + 1
theorem chks_len : ∀ {m : Ms} {es : List Expr}, chks N sc m es = true → msLen m = es.length
  | .nil, [], _ => rfl
  | .nil, _ :: _, h => by simp [chks] at h
  | .cons m r, [], h => by simp [chks] at h
  | .cons m r, e :: es, h => by
    simp only [chks, Bool.and_eq_true] at h
    simp [msLen, chks_len h.2]
theorem pairs_go {α β : Type} {Rel2 : Hp → List Addr → α → β → Prop} {K : PySem.W.Frag} {σ : L2.St} {ro : List (Option W)} {Q : β → Hp → Prop} : ∀ {ks : List Str} {m : Ms} {H Hd : Hp} {io : List Addr} {st : Store} {f : List W → Store → R α} {Q1 : List (V × V) → Hp → Prop}, ks.length = msLen m → Rl K Hd io st H → RelS K Hd io ro σ →
    PX K (eX S Wx σ) Hd io H Rel2 Q ((evs G m ro st).bind f) →
    (∀ vs H1 Hd1 io1 ws st1, vs.length = ks.length → Ext Hd io H Hd1 io1 H1 → Rl K Hd1 io1 st1 H1 → RelWs K Hd1 io1 ws vs → PX K (eX S Wx σ) Hd1 io1 H1 Rel2 Q (f ws st1) → Q1 ((ks.map V.str).zip vs) H1) → tPairs (pairTs S Wx G K ks m) σ H Q1
  | [], .nil, H, Hd, io, st, f, Q1, _, l, rs, q, k => by
    simp only [evs, R.bind_ok] at q
    exact k [] H Hd io [] st rfl Ext.refl l .nil q
  | [], .cons _ _, _, _, _, _, _, _, hl, _, _, _, _ => by simp [msLen] at hl
  | _ :: _, .nil, _, _, _, _, _, _, hl, _, _, _, _ => by simp [msLen] at hl
  | x :: ks, .cons m r, H, Hd, io, st, f, Q1, hl, l, rs, q, k => by
    have e0 : (evs G (.cons m r) ro st).bind f = (ev G m ro st).bind fun w st1 => (evs G r ro st1).bind fun ws st2 => f (w :: ws) st2 := by
      simp only [evs]
      cases ev G m ro st with
      | bad => rfl
      | exc _ _ => rfl
      | ok w st1 =>
        simp only [R.bind_ok]
        cases evs G r ro st1 with
        | bad => rfl
        | exc _ _ => rfl
        | ok ws st2 => rfl
    rw [e0] at q
    show tC (.str x) σ H fun a H1 => tM S Wx G K m σ H1 fun y H2 => tPairs (pairTs S Wx G K ks r) σ H2 fun ps H3 => Q1 ((a, y) :: ps) H3
    show tM S Wx G K m σ H fun y H2 => tPairs (pairTs S Wx G K ks r) σ H2 fun ps H3 => Q1 ((.str x, y) :: ps) H3
    refine ⟨Hd, io, ro, st, l, rs, PX.bind q fun v H1 Hd1 io1 w st1 e1 l1 r1 q => ?_⟩
    refine pairs_go (by simpa [msLen] using hl) l1 (rs.mono e1) q fun vs H2 Hd2 io2 ws st2 hv e2 l2 r2 q => ?_
    exact k (v :: vs) H2 Hd2 io2 (w :: ws) st2 (by simp [hv]) (e1.trans e2) l2 (.cons (r1.mono e2) r2) q
theorem putK_new {k : Key} {v : V} : ∀ {kvs : List (Key × V)}, k ∉ kvs.map (·.1) → putK kvs k v = kvs ++ [(k, v)] := fun {kvs} h => by
  unfold putK
  rw [if_neg]
  intro z
  obtain ⟨p, h1, h2⟩ := List.any_eq_true.mp z
  exact h (List.mem_map.mpr ⟨p, h1, of_decide_eq_true h2⟩)
theorem mergeK_new : ∀ (more kvs : List (Key × V)), ((kvs ++ more).map (·.1)).Nodup → mergeK kvs more = kvs ++ more
  | [], kvs, _ => by simp [mergeK]
  | p :: r, kvs, h => by
    have hn : p.1 ∉ kvs.map (·.1) := fun z => by
      rw [List.map_append, List.nodup_append] at h
      exact h.2.2 _ z _ (by simp) rfl
    show mergeK (putK kvs p.1 p.2) r = _
    rw [putK_new hn, mergeK_new r _ (by simpa using h)]
    simp
theorem relKV_zip {K : PySem.W.Frag} {Hd : Hp} : ∀ {ks : List Key} {vs : List V} {ds : List D}, RelDs K Hd vs ds → RelKV K Hd (ks.zip vs) (ks.zip ds)
  | [], _, _, _ => by simp; exact .nil
  | _ :: _, _, _, .nil => by simp; exact .nil
  | k :: ks, _, _, .cons h r => by
    rw [List.zip_cons_cons, List.zip_cons_cons]
    exact .cons h (relKV_zip r)
theorem zip_keys : ∀ {ks : List Str} {vs : List V}, (ks.map V.str).zip vs = ((ks.map (Sum.inr : Str → Key)).zip vs).map fun kv => (kV kv.1, kv.2)
  | [], _ => by simp
  | _ :: _, [] => by simp
  | k :: ks, v :: vs => by
    rw [List.map_cons, List.map_cons, List.zip_cons_cons, List.zip_cons_cons, List.map_cons, zip_keys]
    rfl
theorem zip_fst : ∀ {ks : List Key} {vs : List V}, vs.length = ks.length → (ks.zip vs).map (·.1) = ks
  | [], _, _ => by simp
  | k :: ks, [], h => by simp at h
  | k :: ks, v :: vs, h => by simp [zip_fst (ks := ks) (vs := vs) (by simpa using h)]
theorem snd_dic (ks : List Str) (es : Ms) (hs : AllSnd G N es) : Snd G N (.dic ks es) := by
  intro S Wx sc X e c h
  cases e <;> try (simp [chk] at h; done)
  rename_i keys vals p
  simp only [chk, Bool.and_eq_true, decide_eq_true_eq, Bool.not_eq_true'] at h
  obtain ⟨⟨⟨⟨⟨h1, h2⟩, h3⟩, h4⟩, h5⟩, h6⟩ := h
  obtain ⟨k1, k2⟩ := keysAre_some h1
  refine snd_val ?_ (fun _ => rfl) (fun _ _ _ z => nomatch z)
  refine PEimp (pe_disp (pps_all c h1 h2 h5 hs) k1 (by rw [k2, h5]) (fun z => by subst z; cases ks with
    | nil => simp at h6
    | cons _ _ => simp at k2) (by rw [k2]; exact h4)) fun σ H Q ⟨Hd, io, ro, st, l, rs, q⟩ => ?_
  simp only [ev] at q
  intro p hp
  cases hr : evs G es ro st with
  | bad => rw [hr] at q; exact q.elim
  | exc x s =>
    rw [hr] at q
    refine pairs_go (f := R.ok) (Rel2 := RelWs X.K) (Q := fun _ _ => False) (by rw [h5, chks_len h2]) (l.hide hp) rs ?_ fun vs H1 Hd1 io1 ws st1 hv e1 l1 r1 q => (PX.here q l1 r1).elim
    rw [hr]
    exact fun a b d e1 l1 => q a b d (e1.unhide hp) l1
  | ok ws st1 =>
    rw [hr, R.bind_ok] at q
    refine pairs_go (f := R.ok) (Rel2 := RelWs X.K) (Q := fun vs H1 => ∃ Hd1 io1, Ext Hd io (upd H p (.dK [])) Hd1 io1 H1 ∧ Rl X.K Hd1 io1 st1 H1 ∧ RelWs X.K Hd1 io1 ws vs) (by rw [h5, chks_len h2]) (l.hide hp) rs ?_ fun vs H1 Hd1' io1' ws' st1' hv e1' l1' r1' q' => ?_
    · rw [hr]
      exact fun v a b d e1 l1 r1 => ⟨a, b, e1, l1, r1⟩
    · obtain ⟨Hd1, io1, e1, l1, r1⟩ := PX.here q' l1' r1'
      cases hk : keepAll ws st1 with
      | bad => rw [hk] at q; exact q.elim
      | exc x s => exact (keepAll_noexc hk).elim
      | ok ds st2 =>
        rw [hk, R.bind_ok] at q
        obtain ⟨Hd2, e2, l2, r2⟩ := keepAll_ok l1 r1 hk
        have e02 := e1.trans e2
        obtain ⟨n1, n2, n3⟩ := e02.hidden l hp
        refine ⟨n3, (ks.map Sum.inr).zip vs, zip_keys, ?_, ?_⟩
        · rw [List.length_zip]
          simp only [List.length_map]
          omega
        · have hnd : (ks.map (Sum.inr : Str → Key)).Nodup := List.Pairwise.map _ (fun a b hab z => hab (by cases z; rfl)) h3
          rw [mergeK_new _ [] (by
            rw [List.nil_append, zip_fst (by simp [hv])]
            exact hnd), List.nil_append]
          obtain ⟨l3, e3⟩ := l2.adoptC (c := .dic ((ks.map Sum.inr).zip ds)) (o := .dK ((ks.map Sum.inr).zip vs)) (e02.unhide hp) hp n1 n2 (fun x z => by rw [n3] at z; cases z) ⟨n1, _, upd_same, relKV_zip r2⟩
          exact q _ _ _ _ e3 l3 (relW_last l2)
end Ev
set_option Elab.async false
set_option linter.all false
set_option maxRecDepth 100000
set_option maxHeartbeats 1000000
namespace Ev
open PySem PySem.Spec PyProof.Rows L2
variable {G : Gt} {N : List Str} {S : IsX} {Wx : WX} {sc : Scope} {X : Cx}
theorem valV_cons {kv : Key × V} {r : List (Key × V)} {k : Key} : valV (kv :: r) k = if kv.1 = k then some kv.2 else valV r k := by
  by_cases h : kv.1 = k
  · rw [if_pos h, valV_pos h]
  · rw [if_neg h, valV_neg h]
theorem lookK_cons {kv : Key × D} {r : List (Key × D)} {k : Key} : lookK (kv :: r) k = if kv.1 = k then some kv.2 else lookK r k := by
  unfold lookK
  rw [List.find?_cons]
  by_cases h : kv.1 = k
  · simp [h]
  · simp [h]
theorem lookK_rel {K : PySem.W.Frag} {Hd : Hp} {k : Key} : ∀ {vs : List (Key × V)} {kvs : List (Key × D)} {d : D}, RelKV K Hd vs kvs → lookK kvs k = some d → ∃ v, valV vs k = some v ∧ RelD K Hd v d
  | _, _, _, .nil, h => by cases h
  | _, _, d, .cons (k := k') hv r, h => by
    rw [lookK_cons] at h
    rw [valV_cons]
    by_cases e : k' = k
    · rw [if_pos e] at h ⊢; cases h; exact ⟨_, rfl, hv⟩
    · rw [if_neg e] at h ⊢; exact lookK_rel r h
theorem keyOf_kV {K : PySem.W.Frag} {Hd : Hp} {d : D} {v : V} {k : Key} (h : keyOf d = some k) (r : RelD K Hd v d) : v = kV k := by
  cases d <;> simp [keyOf] at h
  · subst h; cases r; rfl
  · subst h; cases r; rfl
theorem dgetD_ok {st : Store} {a k : W} {d : D} (h : dgetD st a k = some d) : ∃ n kd kvs key, a = .cell n ∧ k = .d kd ∧ st[n]? = some (.dic kvs) ∧ keyOf kd = some key ∧ lookK kvs key = some d := by
  unfold dgetD at h
  split at h
  · split at h
    · rename_i h1 h2
      exact ⟨_, _, _, _, rfl, rfl, h1, h2, h⟩
    · cases h
  · cases h
theorem snd_dget (a k : M) (ha : Snd G N a) (hk : Snd G N k) : Snd G N (.dget a k) := by
  intro S Wx sc X e c h
  cases e <;> try (simp [chk] at h; done)
  simp only [chk, Bool.and_eq_true] at h
  refine snd_val ?_ (fun _ => rfl) (fun _ _ _ z => nomatch z)
  refine PEimp (pe_dget (Nat.lt_of_le_of_lt (by omega) c.room) (ha S Wx sc X _ c h.1.1).1 (hk S Wx sc X _ c h.1.2).1 (noSl_of h.2)) fun σ H Q ⟨Hd, io, ro, st, l, rs, q⟩ => ?_
  simp only [ev] at q
  refine tM.go l rs q fun v H1 Hd1 io1 w st1 e1 l1 rs1 r1 q => ?_
  refine tM.go l1 rs1 q fun u H2 Hd2 io2 w2 st2 e2 l2 rs2 r2 q => ?_
  obtain ⟨d, hd, q2⟩ := PX.okD q
  obtain ⟨n, kd, kvs, key, rfl, rfl, h1, h2, h3⟩ := dgetD_ok hd
  obtain ⟨p, rfl, hp⟩ := r1.mono e2
  obtain ⟨_, vs, h4, h5⟩ := l2.cel n p _ hp h1
  obtain ⟨v, h6, h7⟩ := lookK_rel h5 h3
  exact ⟨p, v, rfl, .inl ⟨vs, key, .inl h4, keyOf_kV h2 r2, h6.symm⟩, Post.here q2 l2 h7⟩
theorem snd_sub (a k : M) (ha : Snd G N a) (hk : Snd G N k) : Snd G N (.sub a k) := by
  intro S Wx sc X e c h
  cases e <;> try (simp [chk] at h; done)
  simp only [chk, Bool.and_eq_true] at h
  refine snd_val ?_ (fun _ => rfl) (fun _ _ _ z => nomatch z)
  refine PEimp (pe_ix ix_D (ha S Wx sc X _ c h.1.1).1 (hk S Wx sc X _ c h.1.2).1 (plainIx_of h.2)) fun σ H Q ⟨Hd, io, ro, st, l, rs, q⟩ => ?_
  simp only [ev] at q
  refine tM.go l rs q fun v H1 Hd1 io1 w st1 e1 l1 rs1 r1 q => ?_
  refine tM.go l1 rs1 q fun u H2 Hd2 io2 w2 st2 e2 l2 rs2 r2 q => ?_
  obtain ⟨d, hd, q⟩ := PX.okD q
  obtain ⟨x, y, p1, p2, hf⟩ := opt2_some hd
  exact ⟨Hd2, io2, st2, x, y, d, l2, peek_ok l2 (r1.mono e2) p1, peek_ok l2 r2 p2, hf, q⟩
/-! ### slices -/
def tP (S : IsX) (Wx : WX) (G : Gt) (K : PySem.W.Frag) (m : M) : TO := if isAbsent m = true then tNoPart else tPart (tM S Wx G K m)
theorem po_of (c : CtxOk G N S Wx sc X) {m : M} (hm : Snd G N m) {o : Option Expr} (h : (match o with
      | none => isAbsent m
      | some e => !isAbsent m && chk N sc m e) = true) : PO X o (tP S Wx G X.K m) := by
  cases o with
  | none =>
    unfold tP
    rw [if_pos h]
    exact po_none
  | some e =>
    simp only [Bool.and_eq_true, Bool.not_eq_true'] at h
    unfold tP
    rw [if_neg (by rw [h.1]; decide)]
    exact po_some (hm S Wx sc X _ c h.2).1
theorem part_not {m : M} (h : isAbsent m = false) (r : R W) (f : Option Int → Store → R W) (st : Store) : part m r f st = r.bind fun w st1 => match peek st1 w with
    | some (.int i) => f (some i) st1
    | _ => .bad := by
  cases m <;> first | rfl | (cases h; done)
theorem tP.go {K : PySem.W.Frag} {σ : L2.St} {H Hd : Hp} {io : List Addr} {ro : List (Option W)} {st : Store} {Q : VK} {Q1 : Option Int → Hp → Prop} {m : M} {f : Option Int → Store → R W} (l : Rl K Hd io st H) (rs : RelS K Hd io ro σ) (h : PX K (eX S Wx σ) Hd io H (RelW K) Q (part m (ev G m ro st) f st))
    (k : ∀ o H1 Hd1 io1 st1, Ext Hd io H Hd1 io1 H1 → Rl K Hd1 io1 st1 H1 → RelS K Hd1 io1 ro σ → PX K (eX S Wx σ) Hd1 io1 H1 (RelW K) Q (f o st1) → Q1 o H1) : tP S Wx G K m σ H Q1 := by
  unfold tP
  cases hm : isAbsent m with
  | true =>
    cases m <;> first | (cases hm; done) | skip
    exact k none H Hd io st Ext.refl l rs h
  | false =>
    rw [part_not hm] at h
    refine ⟨Hd, io, ro, st, l, rs, PX.bind h fun v H1 Hd1 io1 w st1 e1 l1 r1 q => ?_⟩
    split at q
    · rename_i i hp
      have := PkD.int (peek_ok l1 r1 hp)
      subst this
      exact ⟨i, rfl, k (some i) H1 Hd1 io1 st1 e1 l1 (rs.mono e1) q⟩
    · exact q.elim
theorem snd_slc (a lo hi : M) (ha : Snd G N a) (hl : Snd G N lo) (hh : Snd G N hi) : Snd G N (.slc a lo hi) := by
  intro S Wx sc X e c h
  cases e <;> try (simp [chk] at h; done)
  rename_i o i p
  cases i <;> try (simp [chk] at h; done)
  rename_i l u s p2
  cases s with
  | some _ => simp [chk] at h
  | none =>
    have h : (chk N sc a o && (match (generalizing := false) l with
      | none => isAbsent lo
      | some e => !isAbsent lo && chk N sc lo e) && (match (generalizing := false) u with
      | none => isAbsent hi
      | some e => !isAbsent hi && chk N sc hi e)) = true := h
    rw [Bool.and_eq_true, Bool.and_eq_true] at h
    refine snd_val ?_ (fun _ => rfl) (fun _ _ _ z => nomatch z)
    refine PEimp (pe_slice sl_D (ha S Wx sc X _ c h.1.1).1 (po_of c hl h.1.2) (po_of c hh h.2)) fun σ H Q ⟨Hd, io, ro, st, l, rs, q⟩ => ?_
    simp only [ev] at q
    refine tM.go l rs q fun v H1 Hd1 io1 w st1 e1 l1 rs1 r1 q => ?_
    refine tP.go l1 rs1 q fun o1 H2 Hd2 io2 st2 e2 l2 rs2 q => ?_
    refine tP.go l2 rs2 q fun o2 H3 Hd3 io3 st3 e3 l3 rs3 q => ?_
    obtain ⟨d, hd, q⟩ := PX.okD q
    cases hp : peek st3 w with
    | none => rw [hp] at hd; cases hd
    | some x => rw [hp] at hd; exact ⟨Hd3, io3, st3, x, d, l3, peek_ok l3 ((r1.mono e2).mono e3) hp, hd, q⟩
theorem snd_absent : Snd G N .absent := by
  intro S Wx sc X e c h
  cases e <;> simp [chk] at h
/-! ### builtins -/
theorem bi_mem (b : Bi) : b.name ∈ blts := by cases b <;> decide
theorem snd_bi (b : Bi) (es : Ms) (hs : AllSnd G N es) : Snd G N (.bi b es) := by
  intro S Wx sc X e c h
  cases e <;> try (simp [chk] at h; done)
  rename_i f xs kw p
  cases f <;> try (simp [chk] at h; done)
  rename_i x px
  cases xs with
  | nil => simp [chk] at h
  | cons e r =>
    cases kw with
    | cons _ _ => simp [chk] at h
    | nil =>
      simp only [chk, Bool.and_eq_true, decide_eq_true_eq] at h
      obtain ⟨⟨rfl, hg⟩, h⟩ := h
      obtain ⟨g1, g2⟩ := gl_of c hg
      have st := chks_stars h
      simp only [noStars, Bool.and_eq_true] at st
      have A := snds hs S Wx sc X _ c h
      have key : ∀ σ H Q, tM S Wx G X.K (.bi b es) σ H Q → tCB (rBiD X.K (biD b)) (tMs S Wx G X.K es) σ H Q := fun σ H Q ⟨Hd, io, ro, st, l, rs, q⟩ => by
        simp only [ev] at q
        refine tMs.go l rs q fun vs H1 Hd1 io1 ws st1 e1 l1 rs1 r1 q => ?_
        obtain ⟨d, hd, q⟩ := PX.okD q
        cases hp : peekAll st1 ws with
        | none => rw [hp] at hd; cases hd
        | some ds => rw [hp] at hd; exact ⟨Hd1, io1, st1, ds, d, l1, peekAll_ok l1 r1 hp, hd, q⟩
      refine snd_val ?_ (fun _ => rfl) (fun _ _ _ z => nomatch z)
      have hB := bi_D c.calm c.gd (Nat.lt_of_le_of_lt (by omega) c.room) b
      have hm := c.blt _ (bi_mem b)
      have s1 := star_plain (env := X.env) (es := r) st.1
      have s2 := star_none (env := X.env) (pos := p) st.2
      cases b with
      | int => exact PEimp (pe_callTy hB g1 hm rfl A (by decide) g2 s1 s2) key
      | str => exact PEimp (pe_callTy hB g1 hm rfl A (by decide) g2 s1 s2) key
      | tuple => exact PEimp (pe_callTy hB g1 hm rfl A (by decide) g2 s1 s2) key
      | list => exact PEimp (pe_callTy hB g1 hm rfl A (by decide) g2 s1 s2) key
      | len => exact PEimp (pe_callB hB g1 hm rfl A (by decide) g2 s1 s2) key
      | all => exact PEimp (pe_callB hB g1 hm rfl A (by decide) g2 s1 s2) key
      | any => exact PEimp (pe_callB hB g1 hm rfl A (by decide) g2 s1 s2) key
      | sum => exact PEimp (pe_callB hB g1 hm rfl A (by decide) g2 s1 s2) key
      | abs => exact PEimp (pe_callB hB g1 hm rfl A (by decide) g2 s1 s2) key
      | repr => exact PEimp (pe_callB hB g1 hm rfl A (by decide) g2 s1 s2) key
      | sorted => exact PEimp (pe_callB hB g1 hm rfl A (by decide) g2 s1 s2) key
theorem ty_mem (t : Ty) : Str.ofString t.name ∈ blts := by cases t <;> decide
theorem ty_boot (t : Ty) : bootBuiltins (Str.ofString t.name) = some (.type t.name) := by cases t <;> rfl
theorem ty_not (t : Ty) : Str.ofString t.name ≠ ("__name__" : Str) := by cases t <;> decide
theorem snd_isi (a : M) (t : Ty) (ha : Snd G N a) : Snd G N (.isi a t) := by
  intro S Wx sc X e c h
  cases e <;> try (simp [chk] at h; done)
  rename_i f xs kw p
  cases f <;> try (simp [chk] at h; done)
  rename_i x px
  match xs, kw, h with
  | [e, .Name y py], [], h =>
    simp only [chk, Bool.and_eq_true, decide_eq_true_eq] at h
    obtain ⟨⟨⟨⟨⟨rfl, hg⟩, hg2⟩, rfl⟩, h1⟩, h2⟩ := h
    obtain ⟨g1, g2⟩ := gl_of c hg
    obtain ⟨t1, t2⟩ := gl_of c hg2
    refine snd_val ?_ (fun _ => rfl) (fun _ _ _ z => nomatch z)
    have A : PA X [e, .Name (Str.ofString t.name) py] (tCons (tM S Wx G X.K a) (tCons (tC (.ty t.name)) tNil)) :=
      pa_cons (ha S Wx sc X _ c h1).1 (pa_cons (pe_bltn t1 (c.blt _ (ty_mem t)) (ty_boot t) rfl (ty_not t) t2) pa_nil rfl) (star_plain h2)
    refine PEimp (pe_callB (call_isiD t) g1 (c.blt _ (by decide)) rfl A (by decide) g2 (star_plain h2) (star_none (es := [Expr.Name (Str.ofString t.name) py]) rfl)) fun σ H Q ⟨Hd, io, ro, st, l, rs, q⟩ => ?_
    simp only [ev] at q
    refine tM.go l rs q fun v H1 Hd1 io1 w st1 e1 l1 rs1 r1 q => ?_
    obtain ⟨b, hb, q⟩ := PX.okB q
    cases hp : peek st1 w with
    | none => rw [hp] at hb; cases hb
    | some d => rw [hp] at hb; exact ⟨v, Hd1, d, b, rfl, l1.sub, peek_ok l1 r1 hp, hb, Post.here q l1 (.bl b)⟩
theorem base_of {o : Expr} {nm : Str} (h : notBare o = true) : attributeBase o nm X.env (eval o X.env) = eval o X.env := by
  cases o <;> try rfl
  rename_i f xs kw p
  cases f <;> try rfl
  cases xs with
  | cons _ _ => rfl
  | nil =>
    cases kw with
    | cons _ _ => rfl
    | nil => simp [notBare] at h
theorem snd_mth (m : Mt) (o : M) (es : Ms) (ho : Snd G N o) (hs : AllSnd G N es) : Snd G N (.mth m o es) := by
  intro S Wx sc X e c h
  cases e <;> try (simp [chk] at h; done)
  rename_i f xs kw p
  cases f <;> try (simp [chk] at h; done)
  rename_i x nm ap
  cases kw with
  | cons _ _ => cases xs <;> simp [chk] at h
  | nil =>
    have go : ∀ σ H Q, tM S Wx G X.K (.mth m o es) σ H Q → tM S Wx G X.K o σ H fun a H1 => tyV X.K "str" a H1 ∧ tMs S Wx G X.K es σ H1 fun vs H2 => rMtD X.K (mtD m) a vs H2 Q := fun σ H Q ⟨Hd, io, ro, st, l, rs, q⟩ => by
      simp only [ev] at q
      refine tM.go l rs q fun v H1 Hd1 io1 w st1 e1 l1 rs1 r1 q => ?_
      split at q
      · rename_i z
        cases r1
        refine ⟨rfl, ?_⟩
        refine tMs.go l1 rs1 q fun vs H2 Hd2 io2 ws st2 e2 l2 rs2 r2 q => ?_
        obtain ⟨d, hd, q⟩ := PX.okD q
        cases hp : peekAll st2 ws with
        | none => rw [hp] at hd; cases hd
        | some ds => rw [hp] at hd; exact ⟨Hd2, io2, st2, .str z, ds, d, l2, .inl (.str z), peekAll_ok l2 r2 hp, hd, q⟩
      · exact q.elim
    cases xs with
    | nil =>
      simp only [chk, Bool.and_eq_true, decide_eq_true_eq] at h
      obtain ⟨⟨⟨⟨rfl, h1⟩, h2⟩, h3⟩, h4⟩ := h
      refine snd_val ?_ (fun _ => rfl) (fun _ _ _ z => nomatch z)
      refine PEimp (pe_bm0 PySem.F.plainAttrs_str (slot_mt m) (type_mt m) (mt_D m) (ho S Wx sc X _ c h3).1 (base_of h2) h1) fun σ H Q q => ?_
      cases es with
      | cons _ _ => simp [chks] at h4
      | nil =>
        obtain ⟨Hd, io, ro, st, l, rs, q⟩ := go σ H Q q
        refine ⟨Hd, io, ro, st, l, rs, PX.imp q fun v H' ⟨z1, z2⟩ => ⟨z1, ?_⟩⟩
        obtain ⟨Hd, io, ro, st, l, rs, q⟩ := z2
        simp only [evs] at q
        exact PX.here q l .nil
    | cons e r =>
      simp only [chk, Bool.and_eq_true, decide_eq_true_eq] at h
      obtain ⟨⟨⟨⟨⟨rfl, h1⟩, h2⟩, h5⟩, h3⟩, h4⟩ := h
      have st := chks_stars h4
      have st' := st
      simp only [noStars, Bool.and_eq_true] at st'
      refine snd_val ?_ (fun _ => rfl) (fun _ _ _ z => nomatch z)
      refine PEimp (pe_bm PySem.F.plainAttrs_str (slot_mt m) (type_mt m) (mt_D m) (ho S Wx sc X _ c h3).1 (snds hs S Wx sc X _ c h4) (base_of h2) ?_ h1 (star_plain st'.1) (star_none st'.2)) go
      rw [starAll st]
      simp only [Bool.true_and, List.length_cons]
      have : decide (r.length + 1 + ([] : List Keyword).length + (if ([] : List Keyword).isEmpty = true then 0 else 1) < 30) = true := by
        simp; omega
      rw [this]
      rfl
/-! ### calls of defs -/
theorem Ext.called {K : PySem.W.Frag} {Hd Hd' H H' : Hp} {io : List Addr} {st : Store} (l : Rl K Hd io st H) (e : Ext Hd [] H Hd' [] H') (le : Le Hd' H') : Ext Hd io H Hd' io H' ∧ Rl K Hd' io st H' := by
  refine ⟨⟨e.hd, fun a h1 h2 => ?_, ⟨[], by simp, by simp⟩, fun a o h _ => e.fr a o h (by simp), e.liv⟩, ⟨le, l.nd, l.len, fun n a c h1 h2 => ?_, fun a ha z => l.liv a ha (e.liv a z)⟩⟩
  · rcases e.new a h1 h2 with z | z
    · exact .inl z
    · cases z
  · have hc := l.cel n a c h1 h2
    have hm := List.mem_of_getElem? h1
    have low : Hd a = none → Hd' a = none := fun z => by
      cases q : Hd' a with
      | none => rfl
      | some u =>
        rcases e.new a z (by rw [q]; simp) with y | y
        · exact absurd y (l.liv a hm)
        · cases y
    cases c with
    | lst ds => obtain ⟨h3, vs, h4, h5⟩ := hc; exact ⟨low h3, vs, e.fr a _ h4 (by simp), h5.mono e.hd⟩
    | dic kvs => obtain ⟨h3, vs, h4, h5⟩ := hc; exact ⟨low h3, vs, e.fr a _ h4 (by simp), h5.mono e.hd⟩
    | frz ds => exact RelD.mono e.hd hc
    | obj c fs =>
      obtain ⟨h3, dx, vs, h4, h5, h6, h7, h8⟩ := hc
      refine ⟨low h3, dx, vs, e.fr a _ h4 (by simp), e.fr dx _ h5 (by simp), ?_, h7, h8.le e.hd⟩
      cases q : Hd' dx with
      | none => rfl
      | some u =>
        rcases e.new dx h6 (by rw [q]; simp) with y | y
        · rw [h5] at y; cases y
        · cases y
theorem call_shape {x : Str} {px p : Pos} {es : List Expr} {sp : Sp} {t : TA} {k : Nat} {fa : Addr} {fd : FuncData} {ps : List Str} (F : FnG X.prog X.w X.K X.mg X.base k fa fd ps sp) (hr : Room k X.A) (hgd : X.A.guards = some []) (hg : Gl X x) (hdb : (x == ("__debug__" : Str)) = false) (hm : X.mg x = some (.ref fa)) (hk : PySem.W.keepIn X.K (.ref fa) = true) (hb : L2.Binds X.K fd ps []) (tk : Takes X Wx)
    (ha : PA X es t) (hs : noStars es = true) (ht : es = [] → ∀ σ H Q, t σ H Q → Q [] H) : PE X (.Call (.Name x px) es [] p) (tCallG sp [] Wx t) := by
  cases es with
  | nil => exact PEimp (pe_callG0 F hr hgd hg hm hk hb .nil tk hdb) fun σ H Q q => ht rfl σ H _ q
  | cons e r =>
    simp only [noStars, Bool.and_eq_true] at hs
    exact pe_callG F hr hgd hg hm hk hb .nil tk ha hdb (star_plain hs.1) (star_none hs.2)
theorem tMs_nil {es : Ms} {K : PySem.W.Frag} (h : chks N sc es [] = true) (σ : L2.St) (H : Hp) (Q : List V → Hp → Prop) (q : tMs S Wx G K es σ H Q) : Q [] H := by
  cases es with
  | cons _ _ => simp [chks] at h
  | nil =>
    obtain ⟨Hd, io, ro, st, l, rs, q⟩ := q
    simp only [evs] at q
    exact PX.here q l .nil
theorem RelWs.length {K : PySem.W.Frag} {Hd : Hp} {io : List Addr} : ∀ {ws : List W} {vs : List V}, RelWs K Hd io ws vs → vs.length = ws.length
  | _, _, .nil => rfl
  | _, _, .cons _ r => by rw [List.length_cons, List.length_cons, RelWs.length r]
theorem snd_callP (f : Str) (es : Ms) (hs : AllSnd G N es) : Snd G N (.callP f es) := by
  intro S Wx sc X e c h
  cases e <;> try (simp [chk] at h; done)
  rename_i fn xs kw p
  cases fn <;> try (simp [chk] at h; done)
  rename_i x px
  cases kw with
  | cons _ _ => simp [chk] at h
  | nil =>
    simp only [chk, Bool.and_eq_true, decide_eq_true_eq] at h
    obtain ⟨⟨rfl, hg⟩, h⟩ := h
    obtain ⟨g1, g2⟩ := gl_of c hg
    refine snd_val ?_ (fun _ => rfl) (fun _ _ _ z => nomatch z)
    cases hF : G.fp x with
    | none =>
      refine PEimp (t := fun _ _ _ => False) ⟨fun _ _ _ _ _ _ h => h.elim⟩ fun σ H Q ⟨Hd, io, ro, st, l, rs, q⟩ => ?_
      simp only [ev, hF] at q
      exact q
    | some F =>
      obtain ⟨n, hn, k, fa, fd, ps, hl, F1, F2, F3, F4, F5⟩ := c.fp x F hF
      refine PEimp (call_shape F1 F2 c.gd g1 g2 F3 F4 F5 c.tk (snds hs S Wx sc X _ c h) (chks_stars h) fun z => by subst z; exact tMs_nil h) fun σ H Q ⟨Hd, io, ro, st, l, rs, q⟩ => ?_
      simp only [ev, hF] at q
      refine tMs.go l rs q fun vs H1 Hd1 io1 ws st1 e1 l1 rs1 r1 q => ?_
      obtain ⟨ds, Hd2, st2, e2, l2, r2, q⟩ := keepAll_bind l1 r1 q
      rw [List.append_nil]
      cases hy : F ds with
      | none => rw [hy] at q; exact q.elim
      | some y =>
        refine ⟨by rw [r2.length]; exact hn ds y hy, Hd2, ds, l2.sub, r2, ?_⟩
        rw [hy] at q ⊢
        cases y with
        | ok d =>
            intro v Hd' H' e3 le r3
            obtain ⟨e4, l4⟩ := Ext.called l2 e3 le
            exact q v Hd' io1 H' e4 l4 r3
        | error y =>
            intro Hd' H' cls dx e3 le r3
            obtain ⟨e4, l4⟩ := Ext.called l2 e3 le
            exact q Hd' io1 H' e4 l4 cls dx r3
theorem snd_callS (f : Str) (es : Ms) (hs : AllSnd G N es) : Snd G N (.callS f es) := by
  intro S Wx sc X e c h
  cases e <;> try (simp [chk] at h; done)
  rename_i fn xs kw p
  cases fn <;> try (simp [chk] at h; done)
  rename_i x px
  cases kw with
  | cons _ _ => simp [chk] at h
  | nil =>
    simp only [chk, Bool.and_eq_true, decide_eq_true_eq] at h
    obtain ⟨⟨rfl, hg⟩, h⟩ := h
    obtain ⟨g1, g2⟩ := gl_of c hg
    refine snd_val ?_ (fun _ => rfl) (fun _ _ _ z => nomatch z)
    cases hF : G.fs x with
    | none =>
      refine PEimp (t := fun _ _ _ => False) ⟨fun _ _ _ _ _ _ h => h.elim⟩ fun σ H Q ⟨Hd, io, ro, st, l, rs, q⟩ => ?_
      simp only [ev, hF] at q
      exact q
    | some F =>
      obtain ⟨n, hn, k, fa, fd, ps, hl, F1, F2, F3, F4, F5⟩ := c.fs x F hF
      refine PEimp (call_shape F1 F2 c.gd g1 g2 F3 F4 F5 c.tk (snds hs S Wx sc X _ c h) (chks_stars h) fun z => by subst z; exact tMs_nil h) fun σ H Q ⟨Hd, io, ro, st, l, rs, q⟩ => ?_
      simp only [ev, hF] at q
      refine tMs.go l rs q fun vs H1 Hd1 io1 ws st1 e1 l1 rs1 r1 q => ?_
      rw [List.append_nil]
      refine ⟨by rw [r1.length]; exact hn ws st1 fun z => by rw [z] at q; exact q, Hd1, io1, st1, ws, l1, r1, q⟩
end Ev
set_option Elab.async false
set_option linter.all false
set_option maxRecDepth 100000
set_option maxHeartbeats 1000000
namespace Ev
open PySem PySem.Spec PyProof.Rows L2
variable {G : Gt} {N : List Str} {S : IsX} {Wx : WX} {sc : Scope} {X : Cx}
/-! ### exceptions made, looked at -/
theorem zip_rev {α β : Type} : ∀ {xs : List α} {ys : List β}, xs.length = ys.length → (xs.zip ys).reverse = xs.reverse.zip ys.reverse
  | [], [], _ => rfl
  | [], _ :: _, h => by cases h
  | _ :: _, [], h => by cases h
  | x :: xs, y :: ys, h => by
    have h' : xs.length = ys.length := by simpa using h
    rw [List.zip_cons_cons, List.reverse_cons, zip_rev h', List.reverse_cons, List.reverse_cons, List.zip_append (by simp [h'])]
    rfl
theorem RelDs.reverse {K : PySem.W.Frag} {H : Hp} {vs : List V} {ds : List D} (r : RelDs K H vs ds) : RelDs K H vs.reverse ds.reverse := by
  have go : ∀ (vs : List V) (ds : List D) (us : List V) (es : List D), RelDs K H vs ds → RelDs K H us es → RelDs K H (vs.reverse ++ us) (ds.reverse ++ es) := by
    intro vs
    induction vs with
    | nil => intro ds us es h k; cases h; exact k
    | cons v vs ih =>
      intro ds us es h k
      cases h with
      | cons h1 h2 =>
        rw [List.reverse_cons, List.reverse_cons, List.append_assoc, List.append_assoc]
        exact ih _ _ _ h2 (.cons h1 k)
  have := go vs ds [] [] r .nil
  simpa using this
theorem tMs_mono {m : Ms} {σ : L2.St} {H : Hp} {Q Q' : List V → Hp → Prop} (h : tMs S Wx G X.K m σ H Q) (k : ∀ vs H1, Q vs H1 → Q' vs H1) : tMs S Wx G X.K m σ H Q' := by
  obtain ⟨Hd, io, ro, st, l, rs, q⟩ := h
  exact ⟨Hd, io, ro, st, l, rs, PX.imp q k⟩
/-- behind the arguments -/
theorem mk_own_here {K : PySem.W.Frag} {c : Str} {Hd : Hp} {io : List Addr} {st : Store} {H : Hp} {a : Addr} (l : Rl K Hd io st H) (na : H a = none) :
    ∃ Hd', Ext Hd io H Hd' io (upd H a (exq (.ref (He.ga K c)) none a)) ∧ Rl K Hd' io st (upd H a (exq (.ref (He.ga K c)) none a)) ∧ RelD K Hd' (.ref a) (.exv c [] []) := by
  obtain ⟨l3, e3⟩ := l.newD na (exq (.ref (He.ga K c)) none a)
  exact ⟨_, e3, l3, .exv0 upd_same⟩
theorem mk_ini_here {K : PySem.W.Frag} {c : Str} {ks : List Str} {vs : List V} {ds : List D} {Hd : Hp} {io : List Addr} {st : Store} {H : Hp} {a d : Addr} (l : Rl K Hd io st H) (nd : H d = none) (hk : ks.length = vs.length) (r : RelDs K Hd vs ds) (na : upd H d (.xd (ks.zip vs)) a = none) :
    ∃ Hd', Ext Hd io H Hd' io (upd (upd H d (.xd (ks.zip vs))) a (exq (.ref (He.ga K c)) (some d) a)) ∧ Rl K Hd' io st (upd (upd H d (.xd (ks.zip vs))) a (exq (.ref (He.ga K c)) (some d) a)) ∧ RelD K Hd' (.ref a) (.exv c ks ds) := by
  obtain ⟨l1, e1⟩ := l.newD nd (.xd (ks.zip vs))
  obtain ⟨l3, e3⟩ := l1.newD na (exq (.ref (He.ga K c)) (some d) a)
  have hda : d ≠ a := fun z => by rw [← z, upd_same] at na; cases na
  exact ⟨_, e1.trans e3, l3, .exv upd_same (by rw [upd_ne hda, upd_same]) hk ((r.mono e1.hd).mono e3.hd)⟩
theorem snd_mk (y : Str) (es : Ms) (hs : AllSnd G N es) : Snd G N (.mk y es) := by
  intro S Wx sc X e c h
  cases e <;> try (simp [chk] at h; done)
  rename_i f xs kw p
  cases f <;> try (simp [chk] at h; done)
  rename_i x px
  match xs, kw, h with
  | a :: r, [], h =>
    simp only [chk, Bool.and_eq_true, decide_eq_true_eq] at h
    obtain ⟨⟨rfl, hg⟩, h1⟩ := h
    obtain ⟨g1, g2⟩ := gl_of c hg
    have st := chks_stars h1
    have st' := st
    simp only [noStars, Bool.and_eq_true] at st'
    refine snd_val ?_ (fun _ => rfl) (fun _ _ _ z => nomatch z)
    cases hm : G.mke x with
    | none =>
      refine PEimp (t := fun _ _ _ => False) ⟨fun _ _ _ _ _ _ h => h.elim⟩ fun σ H Q ⟨Hd, io, ro, st, l, rs, q⟩ => ?_
      unfold ev at q
      rw [hm] at q
      exact q
    | some k =>
      cases k with
      | own =>
        refine PEimp (pe_of_mk (pmk_own0 (ta := tMs S Wx G X.K es) (fun _ _ _ _ => tMs_mono) (c.mke _ _ hm) g1 (snds hs S Wx sc X _ c h1) g2 (star_plain st'.1) (star_none st'.2))) fun σ H Q ⟨Hd, io, ro, st, l, rs, q⟩ => ?_
        unfold ev at q
        rw [hm] at q
        refine tMs.go l rs q fun vs H1 Hd1 io1 ws st1 e1 l1 rs1 r1 q => ?_
        obtain ⟨ds, Hd2, st2, e2, l2, r2, q⟩ := keepAll_bind l1 r1 q
        obtain ⟨d, hd, q⟩ := PX.okD q
        simp only [mkD] at hd
        split at hd
        · rename_i hz
          cases hd
          refine ⟨by rw [r2.length]; exact hz, fun a na => ?_⟩
          obtain ⟨Hd3, e3, l3, r3⟩ := mk_own_here (c := x) l2 na
          exact q _ _ _ _ e3 l3 r3
        · cases hd
      | ini f fs =>
        refine PEimp (pe_of_mk (pmk_ini (ta := tMs S Wx G X.K es) (fun _ _ _ _ => tMs_mono) (c.mke _ _ hm) c.rm g1 (snds hs S Wx sc X _ c h1) g2 (star_plain st'.1) (star_none st'.2))) fun σ H Q ⟨Hd, io, ro, st, l, rs, q⟩ => ?_
        unfold ev at q
        rw [hm] at q
        refine tMs.go l rs q fun vs H1 Hd1 io1 ws st1 e1 l1 rs1 r1 q => ?_
        obtain ⟨ds, Hd2, st2, e2, l2, r2, q⟩ := keepAll_bind l1 r1 q
        obtain ⟨d, hd, q⟩ := PX.okD q
        simp only [mkD] at hd
        split at hd
        · rename_i hz
          cases hd
          have hl : vs.length = (f :: fs).length := by rw [r2.length]; exact hz.1
          refine ⟨by rw [r2.length]; exact hz.2, hl, fun d nd a na => ?_⟩
          rw [zip_rev hl.symm] at na ⊢
          obtain ⟨Hd3, e3, l3, r3⟩ := mk_ini_here (c := x) l2 nd (by simp only [List.length_reverse]; exact hl.symm) r2.reverse na
          exact q _ _ _ _ e3 l3 r3
        · cases hd
theorem lookF_rel {K : PySem.W.Frag} {H : Hp} : ∀ {ks : List Str} {vs : List V} {xs : List D} {f : Str} {d : D}, ks.length = vs.length → RelDs K H vs xs → lookF ks xs f = some d → ∃ v, (ks.zip vs).lookup f = some v ∧ RelD K H v d
  | [], _, _, _, _, _, _, h => by cases h
  | k :: ks, [], _, _, _, e, _, _ => by cases e
  | k :: ks, v :: vs, _, f, d, e, .cons r rs, h => by
    simp only [lookF] at h
    rw [List.zip_cons_cons, lookup_put]
    by_cases z : f = k
    · rw [if_pos z] at h ⊢; cases h; exact ⟨v, rfl, r⟩
    · rw [if_neg z] at h ⊢; exact lookF_rel (by simpa using e) rs h
theorem RelFs.look {K : PySem.W.Frag} {Hd : Hp} {io : List Addr} {f : Str} {w : Ev.W} : ∀ {vs : List (Str × V)} {ws : List (Str × Ev.W)}, RelFs K Hd io vs ws → look1 ws f = some w → ∃ v, vs.lookup f = some v ∧ RelW K Hd io w v
  | _, _, .nil, z => by cases z
  | _, _, .cons (f := g) (v := v) (vs := vs) h k, z => by
    simp only [look1] at z
    split at z
    · rename_i e; cases z; refine ⟨v, ?_, h⟩; subst e; simp [List.lookup]
    · rename_i ne
      obtain ⟨u, h1, h2⟩ := RelFs.look k z
      refine ⟨u, ?_, h2⟩
      rw [List.lookup_cons, beq_eq_false_iff_ne.mpr ne]
      exact h1
theorem RelFs.look_none {K : PySem.W.Frag} {Hd : Hp} {io : List Addr} {f : Str} : ∀ {vs : List (Str × V)} {ws : List (Str × Ev.W)}, RelFs K Hd io vs ws → look1 ws f = none → vs.lookup f = none
  | _, _, .nil, _ => rfl
  | _, _, .cons (f := g) h k, z => by
    simp only [look1] at z
    split at z
    · cases z
    · rename_i ne
      rw [List.lookup_cons, beq_eq_false_iff_ne.mpr ne]
      exact RelFs.look_none k z
theorem PX.okW {K : PySem.W.Frag} {EX : EXT} {Hd H : Hp} {io : List Addr} {Q : VK} {o : Option Ev.W} {st : Store} (h : PX K EX Hd io H (RelW K) Q (okW o st)) : ∃ d, o = some d ∧ Post K Hd io H (RelW K) Q (.ok d st) := by
  cases o with
  | none => exact h.elim
  | some d => exact ⟨d, rfl, h⟩
/-- o.f: of an exception, of an instance -/
theorem pe_fld2 {te : TE} {o : Expr} {f : Str} {pos : Pos} (he : PE X o te) (hb : attributeBase o f X.env (eval o X.env) = eval o X.env) :
    PE X (.Attribute o f pos) (fun σ H Q => te σ H fun x H1 => (∃ (a C dx : Addr) (fs : List (Str × V)) (v : V), x = .ref a ∧ H1 a = some (exq (.ref C) (some dx) a) ∧ H1 dx = some (.xd fs) ∧ ExC X.K C ∧ PySem.W.findIn X.K (.ref C) f = some none ∧ fs.lookup f = some v ∧ Q v H1) ∨ (∃ (a C dx : Addr) (fs : List (Str × V)) (v : V), x = .ref a ∧ H1 a = some (.ins C dx fs) ∧ L2.Cls X.K C ∧ L2.NoAttr X.K C f ∧ fs.lookup f = some v ∧ Q v H1)) := by
  refine ⟨fun pins s σ H Q I h => ?_⟩
  refine attr_of hb (thn (he.run pins s σ H _ I h) fun u s1 hh => ?_)
  obtain ⟨x, H1, I1, rx, ⟨a, C, dx, fs, v, rfl, ea, ed, T, hno, l, q⟩ | ⟨a, C, dx, fs, v, rfl, ea, c, n, l, q⟩⟩ := hh
  · obtain rfl : u = Value.ref a := rx
    obtain ⟨oe, vs, ho, ⟨z1, z2⟩, hd⟩ := exq_at I1.hok ea
    have hx : ObjOk X.prog X.w H1 s1.heap dx (.xd fs) := I1.hok dx _ ed
    obtain ⟨mA, hns, hr⟩ := hx
    obtain ⟨od, ho2, hl⟩ := lookIn_ns hns
    obtain ⟨u, hu, ru⟩ := RelO.some_of (v := v) (o := mA f) (by rw [← l]; exact hr f)
    have J : PySem.W.InstAt s1.heap a oe C (some od) := ⟨ho, z1, by unfold PySem.W.notCls; rw [hd] <;> rfl, by rw [z2]; exact ho2⟩
    exact HandSPX.exc_get I1.kIn J T.hg T.hk T.hs (PySem.W.findObj_own T.hd hno rfl (by rw [hl, hu])) (handed_of ru) ⟨v, H1, I1.tok _, ru, q⟩
  · obtain rfl : u = Value.ref a := rx
    exact getattr_ok I1 ea c n l fun u' s2 I2 ru => ⟨v, H1, I2, ru, q⟩
theorem snd_fld (o : M) (f : Str) (ho : Snd G N o) : Snd G N (.fld o f) := by
  intro S Wx sc X e c h
  cases e <;> try (simp [chk] at h; done)
  rename_i x nm p
  simp only [chk, Bool.and_eq_true, decide_eq_true_eq] at h
  obtain ⟨⟨rfl, h1⟩, h2⟩ := h
  refine snd_val ?_ (fun _ => rfl) (fun _ _ _ z => nomatch z)
  refine PEimp (pe_fld2 (ho S Wx sc X _ c h2).1 (base_of h1)) fun σ H Q ⟨Hd, io, ro, st, l, rs, q⟩ => ?_
  simp only [ev] at q
  refine tM.go l rs q fun v H1 Hd1 io1 w st1 e1 l1 rs1 r1 q => ?_
  obtain ⟨d, hd, q2⟩ := PX.okW q
  clear q
  unfold fldD at hd
  split at hd
  · rename_i cc ks xs
    refine .inl ?_
    split at hd
    · rename_i hf
      obtain ⟨T, hno⟩ := c.fld _ _ hf
      cases (show RelD X.K Hd1 v (.exv cc ks xs) from r1) with
      | exv0 _ => cases hd
      | exv h1 h2 hl r =>
        cases hk : lookF ks xs nm with
        | none => rw [hk] at hd; cases hd
        | some d1 =>
          rw [hk] at hd
          cases hd
          obtain ⟨v, k1, k2⟩ := lookF_rel hl r hk
          exact ⟨_, _, _, _, v, rfl, l1.sub _ _ h1, l1.sub _ _ h2, T, hno, k1, Post.here q2 l1 k2⟩
    · cases hd
  · rename_i n
    refine .inr ?_
    split at hd
    · rename_i cc fs hst
      split at hd
      · rename_i hf
        obtain ⟨C, hno⟩ := c.cfl _ _ hf
        obtain ⟨a, rfl, ha⟩ := r1
        obtain ⟨_, dx, vs, hins, _, _, _, rfs⟩ := l1.cel n a _ ha hst
        obtain ⟨v, k1, k2⟩ := rfs.look hd
        exact ⟨a, _, dx, vs, v, rfl, hins, C, hno, k1, Post.here q2 l1 k2⟩
      · cases hd
    · cases hd
  · cases hd
theorem exH_of {K : PySem.W.Frag} {H : Hp} {v : V} {c : Str} {ks : List Str} {xs : List D} (r : RelD K H v (.exv c ks xs)) : ∃ a d, v = .ref a ∧ ExH H a (He.ga K c) d := by
  cases r with
  | exv0 h => exact ⟨_, none, rfl, h, fun _ z => nomatch z⟩
  | exv h1 h2 _ _ => exact ⟨_, some _, rfl, h1, fun dx z => by cases z; exact ⟨_, h2⟩⟩
theorem snd_isx (m : M) (y : Str) (ha : Snd G N m) : Snd G N (.isx m y) := by
  intro S Wx sc X e c h
  cases e <;> try (simp [chk] at h; done)
  rename_i f xs kw p
  cases f <;> try (simp [chk] at h; done)
  rename_i x px
  match xs, kw, h with
  | [e, .Name z pz], [], h =>
    simp only [chk, Bool.and_eq_true, decide_eq_true_eq] at h
    obtain ⟨⟨⟨⟨⟨rfl, hg⟩, rfl⟩, hg2⟩, h1⟩, h2⟩ := h
    obtain ⟨g1, g2⟩ := gl_of c hg
    obtain ⟨t1, t2⟩ := gl_of c hg2
    refine snd_val ?_ (fun _ => rfl) (fun _ _ _ z => nomatch z)
    have go : ∀ (t : TE), PE X (.Name z pz) t → PE X (.Call (.Name "isinstance" px) [e, .Name z pz] [] p) (tCB (rIsQ X.K) (tCons (tM S Wx G X.K m) (tCons t tNil))) := fun t ht =>
      pe_callB call_isQ g1 (c.blt _ (by decide)) rfl (pa_cons (ha S Wx sc X _ c h1).1 (pa_cons ht pa_nil rfl) (star_plain h2)) (by decide) g2 (star_plain h2) (star_none (es := [Expr.Name z pz]) rfl)
    refine ⟨fun pins s σ H Q I ⟨Hd, io, ro, st, l, rs, q⟩ => ?_⟩
    simp only [ev] at q
    cases hev : ev G m ro st with
    | bad => rw [hev] at q; exact q.elim
    | exc x st1 =>
      refine (go (fun _ _ _ => False) ⟨fun _ _ _ _ _ _ h => h.elim⟩).run pins s σ H Q I ⟨Hd, io, ro, st, l, rs, ?_⟩
      rw [hev] at q ⊢
      exact q
    | ok w st1 =>
      rw [hev, R.bind_ok] at q
      cases hb : isxD G z w with
      | none => rw [hb] at q; exact q.elim
      | some b =>
        unfold isxD at hb
        split at hb
        · rename_i cc ks xs
          obtain ⟨T, alt⟩ := c.sub _ _ _ hb
          have done : ∀ (v : V) (cv : Value), (∀ u, RelV v u → u = cv) → PySem.W.kitOne X.K (.ref (He.ga X.K cc)) cv = some b → PE X (.Name z pz) (tC v) → wpAny (model X.prog X.w) X.A (eval (.Call (.Name "isinstance" px) [e, .Name z pz] [] p) X.env) (EP X pins σ Q) X.xe s := fun v cv hv hk hp => by
            refine (go _ hp).run pins s σ H Q I ⟨Hd, io, ro, st, l, rs, ?_⟩
            rw [hev]
            intro v1 Hd1 io1 H1 e1 l1 r1
            obtain ⟨a, d, rfl, ex⟩ := exH_of r1
            refine ⟨a, _, d, v, cv, b, rfl, ⟨l1.sub _ _ ex.1, fun dx hx => ?_⟩, T, hv, hk, ?_⟩
            · obtain ⟨fs, z⟩ := ex.2 dx hx
              exact ⟨fs, l1.sub _ _ z⟩
            · rw [show isxD G z (.d (.exv cc ks xs)) = some b from hb] at q
              exact q _ _ _ _ e1 l1 (.bl b)
          rcases alt with ⟨k1, k2⟩ | ⟨k1, n, k2, k3, k4⟩
          · exact done (.ref (He.ga X.K z)) _ (fun u r => r) k2 (pe_glob t1 k1 rfl t2)
          · exact done (.ty n) _ (fun u r => r) k4 (pe_bltn t1 k1 k2 rfl k3 t2)
        · cases hb
end Ev
namespace Ev
open PySem PySem.Spec PyProof.Rows L2
variable {G : Gt} {N : List Str} {S : IsX} {Wx : WX} {sc : Scope} {X : Cx}
theorem idxS_ok {z : Str} : ∀ {ys : List Str} {j : Nat}, idxS z ys = some j → ys[j]? = some z ∧ ∀ m, m < j → ys[m]? ≠ some z
  | [], j, h => by cases h
  | y :: ys, j, h => by
    simp only [idxS] at h
    split at h
    · rename_i e
      cases h
      exact ⟨by rw [← e]; rfl, fun m hm => by omega⟩
    · rename_i e
      cases hk : idxS z ys with
      | none => rw [hk] at h; cases h
      | some k =>
        rw [hk] at h; cases h
        obtain ⟨h1, h2⟩ := idxS_ok hk
        refine ⟨by simpa using h1, fun m hm => ?_⟩
        cases m with
        | zero => simpa using e
        | succ m => simpa using h2 m (by have hm' : m + 1 < k + 1 := hm; omega)
theorem snd_tix (y : Str) (m : M) (hm : Snd G N m) : Snd G N (.tix y m) := by
  intro S Wx sc X e c h
  unfold chk at h
  split at h <;> first | (cases h; done) | (rename_i q; cases q; done) | skip
  rename_i _ _ y' m' x px nm ap a cp heq
  cases heq
  simp only [Bool.and_eq_true, decide_eq_true_eq] at h
  obtain ⟨⟨⟨⟨⟨rfl, hg⟩, rfl⟩, hl⟩, hst⟩, h1⟩ := h
  obtain ⟨g1, g2⟩ := gl_of c hg
  refine snd_val ?_ (fun _ => rfl) (fun _ _ _ z => nomatch z)
  cases ht : G.tix x with
  | none =>
    refine PEimp (t := fun _ _ _ => False) ⟨fun _ _ _ _ _ _ h => h.elim⟩ fun σ H Q ⟨Hd, io, ro, st, l, rs, q⟩ => ?_
    simp only [ev, ht] at q
    exact q
  | some ys =>
    obtain ⟨t1, t2, t3⟩ := c.tix _ _ ht
    have s1 : starEach [a] X.env = (false, eval a X.env) :: starEach [] X.env := star_plain hst
    refine PEimp (pe_bm (T := "tuple") PySem.F.plainAttrs_tuple PySem.F.slot_tuple_index PySem.F.type_tuple_index mt_tup_index (pe_glob g1 t1 (v := .ref (He.ga X.K x)) rfl g2) (pa_cons (hm S Wx _ X _ c h1).1 pa_nil s1) rfl
      (by rw [starAll (by simp [noStars, hst])]; rfl) hl s1 rfl) fun σ H Q ⟨Hd, io, ro, st, l, rs, q⟩ => ?_
    simp only [ev, ht] at q
    refine ⟨.inr (.inl ⟨rfl, t3⟩), ?_⟩
    refine tM.go l rs q fun v H1 Hd1 io1 w st1 e1 l1 rs1 r1 q => ?_
    obtain ⟨d, hd, q2⟩ := PX.okD q
    clear q
    split at hd
    · rename_i z
      cases hj : idxS z ys with
      | none => rw [hj] at hd; cases hd
      | some j =>
        rw [hj] at hd; cases hd
        cases r1
        obtain ⟨k1, k2⟩ := idxS_ok hj
        exact ⟨_, ys, z, j, rfl, rfl, t2 _, k1, k2, Post.here q2 l1 (.int _)⟩
    · cases hd
theorem snd_lstc (es : Ms) (hs : AllSnd G N es) : Snd G N (.lstc es) := by
  intro S Wx sc X e c h
  cases e <;> try (simp [chk] at h; done)
  simp only [chk] at h
  refine snd_val ?_ (fun _ => rfl) (fun _ _ _ z => nomatch z)
  refine PEimp (pe_lst (snds hs S Wx sc X _ c h)) fun σ H Q ⟨Hd, io, ro, st, l, rs, q⟩ => ?_
  simp only [ev] at q
  refine tMs.go l rs q fun vs H1 Hd1 io1 ws st1 e1 l1 rs1 r1 q => ?_
  obtain ⟨ds, Hd2, st2, e2, l2, r2, q⟩ := keepAll_bind l1 r1 q
  split at q
  · rename_i hz
    refine ⟨by rw [r2.length]; exact size1000 hz, fun p hp => ?_⟩
    obtain ⟨l', e'⟩ := l2.newC (o := .lst vs) (c := .lst ds) hp ⟨l2.fresh hp, vs, upd_same, r2⟩
    exact q _ _ _ _ e' l' (relW_last l2)
  · exact q.elim
theorem snd_addc (a b : M) (ha : Snd G N a) (hb : Snd G N b) : Snd G N (.addc a b) := by
  intro S Wx sc X e c h
  cases e <;> try (simp [chk] at h; done)
  rename_i x o y p
  simp only [chk, Bool.and_eq_true, decide_eq_true_eq] at h
  obtain ⟨⟨rfl, h1⟩, h2⟩ := h
  refine snd_val ?_ (fun _ => rfl) (fun _ _ _ z => nomatch z)
  refine PEimp (pe_op op_cat (ha S Wx sc X _ c h1).1 (hb S Wx sc X _ c h2).1) fun σ H Q ⟨Hd, io, ro, st, l, rs, q⟩ => ?_
  simp only [ev] at q
  refine tM.go l rs q fun v H1 Hd1 io1 w st1 e1 l1 rs1 r1 q => ?_
  refine tM.go l1 rs1 q fun u H2 Hd2 io2 w2 st2 e2 l2 rs2 r2 q => ?_
  split at q
  · rename_i xs ys p1 p2
    split at q
    · rename_i hz
      obtain ⟨q1, vs, rfl, k1, s1⟩ := (peek_ok l2 (r1.mono e2) p1).list l2.sub
      obtain ⟨q2, us, rfl, k2, s2⟩ := (peek_ok l2 r2 p2).list l2.sub
      refine ⟨q1, q2, vs, us, rfl, rfl, k1, k2, by rw [s1.length, s2.length]; exact hz, fun p hp => ?_⟩
      obtain ⟨l', e'⟩ := l2.newC (o := .lst (vs ++ us)) (c := .lst (xs ++ ys)) hp ⟨l2.fresh hp, _, upd_same, s1.append s2⟩
      exact q _ _ _ _ e' l' (relW_last l2)
    · exact q.elim
  · exact q.elim
theorem lookK_none {K : PySem.W.Frag} {H : Hp} {k : Key} : ∀ {vs : List (Key × V)} {ds : List (Key × D)}, RelKV K H vs ds → (valV vs k).isSome = (lookK ds k).isSome := by
  intro vs ds r
  cases h : lookK ds k with
  | some d =>
    obtain ⟨v, h1, _⟩ := lookK_rel r h
    rw [h1]; rfl
  | none =>
    induction r with
    | nil => rfl
    | @cons k' v d vs ds rd r ih =>
      unfold lookK at h
      rw [List.find?_cons] at h
      by_cases z : k' = k
      · rw [decide_eq_true (by exact z)] at h; cases h
      · rw [decide_eq_false (by exact z)] at h
        have := ih h
        unfold valV at this ⊢
        rw [List.find?_cons, decide_eq_false (by exact z)]
        exact this
theorem kinD_ok {st : Store} {k a : W} {b : Bool} (h : kinD st k a = some b) : ∃ n kd kvs key, a = .cell n ∧ k = .d kd ∧ st[n]? = some (.dic kvs) ∧ keyOf kd = some key ∧ (lookK kvs key).isSome = b := by
  unfold kinD at h
  split at h
  · split at h
    · rename_i h1 h2
      cases h
      exact ⟨_, _, _, _, rfl, rfl, h1, h2, rfl⟩
    · cases h
  · cases h
theorem snd_kin (neg : Bool) (k d : M) (hk : Snd G N k) (hd : Snd G N d) : Snd G N (.kin neg k d) := by
  intro S Wx sc X e c h
  cases e <;> try (simp [chk] at h; done)
  rename_i x ops ys p
  match ops, ys, h with
  | [o], [y], h =>
    simp only [chk, Bool.and_eq_true, decide_eq_true_eq] at h
    obtain ⟨⟨⟨rfl, h1⟩, h2⟩, h3⟩ := h
    have go : ∀ (σ : L2.St) (H : Hp) (Q : VK), tM S Wx G X.K (.kin neg k d) σ H Q → tM S Wx G X.K k σ H fun y H1 => tM S Wx G X.K d σ H1 fun x H2 => ∃ a o, x = .ref a ∧ DGet H2 a y o ∧ Q (.bl (o.isSome != neg)) H2 := fun σ H Q ⟨Hd, io, ro, st, l, rs, q⟩ => by
      simp only [ev] at q
      refine tM.go l rs q fun v H1 Hd1 io1 w st1 e1 l1 rs1 r1 q => ?_
      refine tM.go l1 rs1 q fun u H2 Hd2 io2 w2 st2 e2 l2 rs2 r2 q => ?_
      obtain ⟨b, hb, q2⟩ := PX.okB q
      clear q
      cases hq : kinD st2 w w2 with
      | none => rw [hq] at hb; cases hb
      | some b0 =>
        rw [hq] at hb
        cases hb
        obtain ⟨n, kd, kvs, key, rfl, rfl, k1, k2, k3⟩ := kinD_ok hq
        obtain ⟨p, rfl, hp⟩ := r2
        obtain ⟨_, vs, k4, k5⟩ := l2.cel n p _ hp k1
        refine ⟨p, valV vs key, rfl, .inl ⟨vs, key, .inl k4, keyOf_kV k2 (r1.mono e2), rfl⟩, ?_⟩
        rw [lookK_none k5, k3]
        exact Post.here q2 l2 (.bl _)
    have hB : IsB G (.kin neg k d) := by
      intro ro st w st' h
      simp only [ev] at h
      cases h1 : ev G k ro st with
      | bad => rw [h1] at h; cases h
      | exc _ _ => rw [h1] at h; cases h
      | ok wa st1 =>
        rw [h1, R.bind_ok] at h
        cases h2 : ev G d ro st1 with
        | bad => rw [h2] at h; cases h
        | exc _ _ => rw [h2] at h; cases h
        | ok wb st2 =>
          rw [h2, R.bind_ok] at h
          cases h3 : (kinD st2 wa wb).map fun b => b != neg with
          | none => rw [h3] at h; cases h
          | some z => rw [h3] at h; cases h; exact ⟨z, rfl⟩
    cases neg with
    | true =>
      have P := pc_dnotin (Nat.lt_of_le_of_lt (by omega) c.room) (hk S Wx sc X _ c h1).1 (hd S Wx sc X _ c h2).1
      have im : ∀ (σ : L2.St) (H : Hp) (Q : VK), tM S Wx G X.K (.kin true k d) σ H Q → tDNotIn (tM S Wx G X.K k) (tM S Wx G X.K d) σ H Q := fun σ H Q q => by
        have := go σ H Q q
        simp only [Bool.bne_true] at this
        exact this
      exact ⟨PEimp (pe_cmp P (behind_of h3)) im, PTimp (pt_cmp P (behind_of h3)) fun σ H Q q => im σ H _ (tT_bool hB q), fun _ _ _ z => nomatch z⟩
    | false =>
      have P := pc_din (Nat.lt_of_le_of_lt (by omega) c.room) (hk S Wx sc X _ c h1).1 (hd S Wx sc X _ c h2).1
      have im : ∀ (σ : L2.St) (H : Hp) (Q : VK), tM S Wx G X.K (.kin false k d) σ H Q → tDIn (tM S Wx G X.K k) (tM S Wx G X.K d) σ H Q := fun σ H Q q => by
        have := go σ H Q q
        simp only [Bool.bne_false] at this
        exact this
      exact ⟨PEimp (pe_cmp P (behind_of h3)) im, PTimp (pt_cmp P (behind_of h3)) fun σ H Q q => im σ H _ (tT_bool hB q), fun _ _ _ z => nomatch z⟩
  | [], _, h => simp [chk] at h
  | [_], [], h => simp [chk] at h
  | [_], _ :: _ :: _, h => simp [chk] at h
  | _ :: _ :: _, _, h => simp [chk] at h
end Ev
set_option Elab.async false
set_option linter.all false
set_option maxRecDepth 100000
set_option maxHeartbeats 1000000
namespace Ev
open PySem PySem.Spec PyProof.Rows L2
variable {G : Gt} {N : List Str} {S : IsX} {Wx : WX} {sc : Scope} {X : Cx}
/-! ### instances: made, methods -/
theorem run_makeG {k : Nat} {f C : Addr} {fd : FuncData} {ps : List Str} {sp : Sp} {W : WX} {pins : List (Addr × Obj)} {σ : L2.St} {H : Hp} {s : Shared} {Q : VK} {us : List Value} {vs : List V} (M : L2.Mk X.K C f) (F : FnG X.prog X.w X.K X.mg X.base k f fd ps sp) (hr : Room (k + 1) X.A) (hgd : X.A.guards = some []) (hb : L2.Binds X.K fd ps [])
    (tk : Takes X W) (I : Inv X pins σ H s) (r : Vals vs us)
    (h : ∀ x dx, H x = none → H dx = none → dx ≠ x → sp (.ref x :: vs) (upd (upd H dx (.own x)) x (.ins C dx [])) (fun v H2 => v = .non ∧ Q (.ref x) H2) fun cls d H2 => W cls d σ H2) :
    wpAny (model X.prog X.w) X.A (call (.ref C) us) (EP X pins σ Q) X.xe s := by
  have hq := h (s.heap.objs.size + 1) s.heap.objs.size (I.hok.fresh (Nat.le_succ _)) (I.hok.fresh (Nat.le_refl _)) (Nat.ne_of_lt (Nat.lt_succ_self _))
  have I2 := Inv.made (C := C) I
  have r2 : Vals (V.ref (s.heap.objs.size + 1) :: vs) (Value.ref (s.heap.objs.size + 1) :: us) := .cons rfl r
  have hl : (Value.ref (s.heap.objs.size + 1) :: us ++ []).length = ps.length := by
    have e := r2.length
    rw [F.len _ _ _ _ hq] at e
    rw [List.append_nil]
    exact e.symm
  have bb := hb _ (Value.ref (s.heap.objs.size + 1) :: us) I2.kIn hl
  rw [List.append_nil] at bb
  refine wpAny_call (make_map (f := f) I.kIn M.makes M.init (beq_iff_eq.mp M.fn) (codeAny_mono (F.run _ X.stack _ _ ⟨Value.ref (s.heap.objs.size + 1) :: us, []⟩ (Value.ref (s.heap.objs.size + 1) :: us) _ _ _ (hr.make C us []) hgd
    (I2.env0.make C us []) bb r2 hq) fun r s' hq' => ?_))
  match r, hq' with
  | .error e, hq' => exact passAt tk σ pins _ _ e s' I2 hq'
  | .ok (.ret u), hq' =>
    obtain ⟨v, H', I3, rv, ev, q3⟩ := I2.after hq'
    subst ev
    exact ⟨rv, ⟨V.ref (s.heap.objs.size + 1), H', I3, rfl, q3⟩⟩
  | .ok .next, hq' => exact hq'.elim
  | .ok .brk, hq' => exact hq'.elim
  | .ok .cont, hq' => exact hq'.elim
theorem Post.len {α : Type} (r : R α) : True := trivial
theorem newR_notBad {n : Nat} {r : R Ev.W} (h : newR n r ≠ .bad) : r ≠ .bad := fun z => h (by rw [z]; rfl)
theorem PX.notBad {α β : Type} {K : PySem.W.Frag} {EX : EXT} {Hd : Hp} {io : List Addr} {H : Hp} {Rel : Hp → List Addr → α → β → Prop} {Q : β → Hp → Prop} {r : R α} (h : PX K EX Hd io H Rel Q r) : r ≠ .bad := fun z => by rw [z] at h; exact h
/-- what is wanted of an __init__ -/
theorem new_want {K : PySem.W.Frag} {c : Str} {n : Nat} {F : List Ev.W → Store → R Ev.W} {σ : L2.St} {Hd H : Hp} {io : List Addr} {st : Store} {ws : List Ev.W} {vs : List V} {Q : VK} {x dx : Addr} (l : Rl K Hd io st H) (r : RelWs K Hd io ws vs) (hn : ∀ ws st, F ws st ≠ .bad → ws.length = n)
    (q : PX K (eX S Wx σ) Hd io H (RelW K) Q (newR st.length (F (.cell st.length :: ws) (st ++ [.obj c []])))) (hx : H x = none) (hd : H dx = none) (ne : dx ≠ x) :
    spS S K n F (.ref x :: vs) (upd (upd H dx (.own x)) x (.ins (He.ga K c) dx [])) (fun v H2 => v = .non ∧ Q (.ref x) H2) fun cls d H2 => Wx cls d σ H2 := by
  obtain ⟨l2, e2⟩ := l.newO c hx hd ne
  have rc : RelW K Hd (io ++ [x]) (.cell st.length) (.ref x) := ⟨x, rfl, by rw [← l.len]; simp⟩
  have rw2 : RelWs K Hd (io ++ [x]) (.cell st.length :: ws) (.ref x :: vs) := .cons rc (r.mono e2)
  have hl := hn _ _ (newR_notBad (PX.notBad q))
  have q := PX.ext e2 q
  refine ⟨by have := rw2.length; omega, Hd, io ++ [x], st ++ [.obj c []], _, l2, rw2, ?_⟩
  unfold newR at q
  cases hr : F (.cell st.length :: ws) (st ++ [.obj c []]) with
  | bad => rw [hr] at q; exact q.elim
  | exc y st1 => rw [hr] at q; exact q
  | ok w st1 =>
    rw [hr, R.bind_ok] at q
    intro v Hd1 io1 H1 e1 l1 r1
    split at q
    · cases r1
      exact ⟨rfl, q _ _ _ _ e1 l1 (rc.mono e1)⟩
    · exact q.elim
theorem snd_new (y : Str) (es : Ms) (hs : AllSnd G N es) : Snd G N (.new y es) := by
  intro S Wx sc X e c h
  cases e <;> try (simp [chk] at h; done)
  rename_i f xs kw p
  cases f <;> try (simp [chk] at h; done)
  rename_i x px
  cases kw with
  | cons _ _ => simp [chk] at h
  | nil =>
    simp only [chk, Bool.and_eq_true, decide_eq_true_eq] at h
    obtain ⟨⟨rfl, hg⟩, h1⟩ := h
    obtain ⟨g1, g2⟩ := gl_of c hg
    refine snd_val ?_ (fun _ => rfl) (fun _ _ _ z => nomatch z)
    cases hm : G.ini x with
    | none =>
      refine PEimp (t := fun _ _ _ => False) ⟨fun _ _ _ _ _ _ h => h.elim⟩ fun σ H Q ⟨Hd, io, ro, st, l, rs, q⟩ => ?_
      simp only [ev, hm] at q
      exact q
    | some F =>
      obtain ⟨n, hn, k, fa, fd, ps, rfl, M, FF, hr, mg, hb⟩ := c.ini _ _ hm
      refine ⟨fun pins s σ H Q I ⟨Hd, io, ro, st, l, rs, q⟩ => ?_⟩
      simp only [ev, hm] at q
      refine wpAny_Call_Name_kw (ld_glob I g1 mg ?_ g2)
      have fin : ∀ (us : List Value) (s1 : Shared) (vs : List V) (H1 : Hp), Inv X pins σ H1 s1 → Vals vs us → (∃ Hd1 io1 st1 ws, Rl X.K Hd1 io1 st1 H1 ∧ RelWs X.K Hd1 io1 ws vs ∧ PX X.K (eX S Wx σ) Hd1 io1 H1 (RelW X.K) Q (newR st1.length (F (.cell st1.length :: ws) (st1 ++ [.obj x []])))) →
          wpAny (model X.prog X.w) X.A (call (.ref (He.ga X.K x)) us) (EP X pins σ Q) X.xe s1 := fun us s1 vs H1 I1 r1 ⟨Hd1, io1, st1, ws, l1, w1, q1⟩ =>
        run_makeG M FF hr c.gd hb c.tk I1 r1 fun x' dx hx hd ne => new_want l1 w1 hn q1 hx hd ne
      cases xs with
      | nil =>
        cases es with
        | cons _ _ => simp [chks] at h1
        | nil =>
          simp only [evs, R.bind_ok] at q
          exact PySem.W.callWith_K0 I.kIn M.kp (fin [] s [] H I .nil ⟨Hd, io, st, [], l, .nil, q⟩)
      | cons a r =>
        have st' := chks_stars h1
        have st2 := st'
        simp only [noStars, Bool.and_eq_true] at st2
        have A := snds hs S Wx sc X _ c h1
        refine PySem.W.callWith_K (h₀ := X.base) I.ok.mod.kin M.kp (thn (A.run _ pins s σ H _ I (tMs.go l rs q fun vs H1 Hd1 io1 ws st1 e1 l1 rs1 r1 q => ⟨Hd1, io1, st1, ws, l1, r1, q⟩)) fun us s1 ⟨vs, H1, I1, r1, q1⟩ => ⟨I1.kIn, fin us s1 vs H1 I1 r1 q1⟩) (star_plain st2.1) (star_none st2.2)
/-! ### sorted(set(xs)), xs[::-1] -/
theorem srtsL_ok {ds : List D} {d : D} (h : srtsL ds = some d) : ∃ xs, ds = xs.map D.str ∧ xs.length < 1000 ∧ d = .lst ((sortT (setL xs)).map D.str) := by
  unfold srtsL at h
  cases hs : strsOf ds with
  | none => rw [hs] at h; cases h
  | some xs =>
    rw [hs] at h
    simp only [Option.bind_some] at h
    split at h
    · rename_i hl; cases h; exact ⟨xs, strsOf_ok hs, hl, rfl⟩
    · cases h
theorem snd_srts (a : M) (ha : Snd G N a) : Snd G N (.srts a) := by
  intro S Wx sc X e c h
  cases e <;> try (simp [chk] at h; done)
  rename_i f xs kw p
  match f, xs, kw, h with
  | .Name x px, [.Call (.Name y py) [e] [] qq], [], h =>
    simp only [chk, Bool.and_eq_true, decide_eq_true_eq] at h
    obtain ⟨⟨⟨⟨⟨rfl, hg⟩, rfl⟩, hg2⟩, h1⟩, h2⟩ := h
    obtain ⟨g1, _⟩ := gl_of c hg
    obtain ⟨t1, _⟩ := gl_of c hg2
    refine snd_val ?_ (fun _ => rfl) (fun _ _ _ z => nomatch z)
    refine PEimp (pe_srts c.calm c.room g1 (c.blt _ (by decide)) t1 (c.blt _ (by decide)) (ha S Wx sc X _ c h2).1 (star_plain h1)) fun σ H Q ⟨Hd, io, ro, st, l, rs, q⟩ => ?_
    simp only [ev] at q
    refine tM.go l rs q fun v H1 Hd1 io1 w st1 e1 l1 rs1 r1 q => ?_
    obtain ⟨d, hd, q2⟩ := PX.okD q
    cases hp : peek st1 w with
    | none => rw [hp] at hd; cases hd
    | some x0 =>
      rw [hp] at hd
      have pk := peek_ok l1 r1 hp
      match x0, hd, pk with
      | .lst ds, hd, pk =>
        obtain ⟨xs, rfl, hl, rfl⟩ := srtsL_ok (show srtsL ds = some d from hd)
        obtain ⟨a, vs, rfl, k1, k2⟩ := pk.list l1.sub
        rw [RelDs.of_strs k2] at k1
        exact ⟨a, xs, rfl, .inl (lq k1), hl, fun p hp => q2.newLst l1 (RelDs.strs _) hp⟩
      | .tup ds, hd, pk =>
        obtain ⟨xs, rfl, hl, rfl⟩ := srtsL_ok (show srtsL ds = some d from hd)
        obtain ⟨a, vs, rfl, k1, k2⟩ := pk.tuple l1.sub
        rw [RelDs.of_strs k2] at k1
        exact ⟨a, xs, rfl, .inr k1, hl, fun p hp => q2.newLst l1 (RelDs.strs _) hp⟩
theorem snd_rev (a : M) (ha : Snd G N a) : Snd G N (.rev a) := by
  intro S Wx sc X e c h
  cases e <;> try (simp [chk] at h; done)
  rename_i x sl p
  match sl, h with
  | .Slice none none (some (.UnaryOp .USub (.Constant (.int 1) k p1) p2)) p3, h =>
    simp only [chk] at h
    refine snd_val ?_ (fun _ => rfl) (fun _ _ _ z => nomatch z)
    refine PEimp (pe_revD (ha S Wx sc X _ c h).1) fun σ H Q ⟨Hd, io, ro, st, l, rs, q⟩ => ?_
    simp only [ev] at q
    refine tM.go l rs q fun v H1 Hd1 io1 w st1 e1 l1 rs1 r1 q => ?_
    obtain ⟨d, hd, q2⟩ := PX.okD q
    cases hp : peek st1 w with
    | none => rw [hp] at hd; cases hd
    | some x0 =>
      rw [hp] at hd
      have pk := peek_ok l1 r1 hp
      match x0, hd, pk with
      | .lst ds, hd, pk =>
        cases (show some (D.lst ds.reverse) = some d from hd)
        obtain ⟨a, vs, rfl, k1, k2⟩ := pk.list l1.sub
        exact ⟨a, vs, rfl, .inl ⟨lq k1, fun p hp => q2.newLst l1 k2.reverse hp⟩⟩
      | .tup ds, hd, pk =>
        cases (show some (D.tup ds.reverse) = some d from hd)
        obtain ⟨a, vs, rfl, k1, k2⟩ := pk.tuple l1.sub
        exact ⟨a, vs, rfl, .inr ⟨k1, fun p hp => q2.newTup l1 k2.reverse hp⟩⟩
theorem methF_ok {m : Str} {st : Store} {w : Ev.W} {n : Nat} {F : List Ev.W → Store → R Ev.W} (h : methF G m st w = some (n, F)) : ∃ c fs, w = .cell n ∧ st[n]? = some (.obj c fs) ∧ look1 fs m = none ∧ G.meth c m = some F := by
  unfold methF at h
  split at h
  · split at h
    · split at h
      · rename_i h1 _ h2
        cases hg : G.meth _ m with
        | none => rw [hg] at h; cases h
        | some F' => rw [hg] at h; cases h; exact ⟨_, _, rfl, h1, h2, hg⟩
      · cases h
    · cases h
  · cases h
theorem snd_meth (o : M) (m : Str) (es : Ms) (ho : Snd G N o) (hs : AllSnd G N es) : Snd G N (.meth o m es) := by
  intro S Wx sc X e c h
  cases e <;> try (simp [chk] at h; done)
  rename_i f xs kw p
  cases f <;> try (simp [chk] at h; done)
  rename_i x nm ap
  cases kw with
  | cons _ _ => simp [chk] at h
  | nil =>
    simp only [chk, Bool.and_eq_true, decide_eq_true_eq] at h
    obtain ⟨⟨⟨⟨⟨rfl, hl⟩, hb⟩, h20⟩, h1⟩, h2⟩ := h
    refine snd_val ?_ (fun _ => rfl) (fun _ _ _ z => nomatch z)
    have st' := chks_stars h2
    refine ⟨fun pins s σ H Q I ⟨Hd, io, ro, st, l, rs, q⟩ => ?_⟩
    simp only [ev] at q
    refine call_attr (base_of hb) ?_ hl (thn ((ho S Wx sc X _ c h1).1.run pins s σ H _ I (tM.go (Q1 := fun x H1 => ∃ Hd1 io1 st1 n F, RelW X.K Hd1 io1 (.cell n) x ∧ Rl X.K Hd1 io1 st1 H1 ∧ RelS X.K Hd1 io1 ro σ ∧ methF G nm st1 (.cell n) = some (n, F) ∧ PX X.K (eX S Wx σ) Hd1 io1 H1 (RelW X.K) Q ((evs G es ro st1).bind fun ws st2 => F (.cell n :: ws) st2)) l rs q
      fun v H1 Hd1 io1 w st1 e1 l1 rs1 r1 q => ?_)) fun u s1 ⟨x', H1, I1, rx, Hd1, io1, st1, n, F, rw1, l1, rs1, hm, q1⟩ pl => ?_)
    · rw [starAll st']
      simp only [Bool.true_and]
      show (true && decide (xs.length + 0 + 0 < 30)) = true
      rw [Bool.true_and]
      exact decide_eq_true (by omega)
    · cases hm : methF G nm st1 w with
      | none => rw [hm] at q; exact q.elim
      | some nF =>
        obtain ⟨n, F⟩ := nF
        rw [hm] at q
        obtain ⟨cc, fs, rfl, _⟩ := methF_ok hm
        exact ⟨Hd1, io1, st1, n, F, r1, l1, rs1, hm, q⟩
    · obtain ⟨cc, fs, _, k1, k2, k3⟩ := methF_ok hm
      obtain ⟨nn, hn, k, fa, fd, ps, rfl, C, Mt, FF, hr, hbd⟩ := c.meth _ _ _ k3
      obtain ⟨a, rfl, ha⟩ := id rw1
      obtain ⟨_, dx, vs0, hins, _, _, _, rfs⟩ := l1.cel n a _ ha k1
      obtain rfl : u = Value.ref a := rx
      refine getmeth_ok I1 hins C Mt (rfs.look_none k2) ?_
      have fin : ∀ (us : List Value) (s2 : Shared) (vs : List V) (H2 : Hp), Inv X pins σ H2 s2 → Vals vs us → (∃ Hd2 io2 st2 ws, Rl X.K Hd2 io2 st2 H2 ∧ RelW X.K Hd2 io2 (.cell n) (.ref a) ∧ RelWs X.K Hd2 io2 ws vs ∧ PX X.K (eX S Wx σ) Hd2 io2 H2 (RelW X.K) Q (F (.cell n :: ws) st2)) →
          wpAny (model X.prog X.w) X.A (call (.ref fa) (.ref a :: us)) (EP X pins σ Q) X.xe s2 := fun us s2 vs H2 I2 r2 ⟨Hd2, io2, st2, ws, l2, c2, w2, q2⟩ => by
        refine run_fnG (ds := []) (dvs := []) (vs := .ref a :: vs) FF hr c.gd hbd .nil c.tk I2 (.cons rfl r2) ?_
        have rr : RelWs X.K Hd2 io2 (.cell n :: ws) (.ref a :: vs) := .cons c2 w2
        have e0 : (V.ref a :: vs) ++ [] = .ref a :: vs := List.append_nil _
        rw [e0]
        exact ⟨by have := rr.length; have := hn _ _ (PX.notBad q2); omega, Hd2, io2, st2, _, l2, rr, q2⟩
      cases xs with
      | nil =>
        cases es with
        | cons _ _ => simp [chks] at h2
        | nil =>
          simp only [evs, R.bind_ok] at q1
          exact PySem.W.callWith_K0 (first := [.ref a]) I1.kIn Mt.kp (fin [] s1 [] H1 I1 .nil ⟨Hd1, io1, st1, [], l1, rw1, .nil, q1⟩)
      | cons b r =>
        have st2 := st'
        simp only [noStars, Bool.and_eq_true] at st2
        have A := snds hs S Wx sc X _ c h2
        refine PySem.W.callWith_K (first := [.ref a]) (h₀ := X.base) I1.ok.mod.kin Mt.kp (thn (A.run _ pins s1 σ H1 _ I1 (tMs.go l1 rs1 q1 fun vs H2 Hd2 io2 ws st2 e2 l2 rs2 r2 q => ⟨Hd2, io2, st2, ws, l2, rw1.mono e2, r2, q⟩)) fun us s2 ⟨vs, H2, I2, r2, q2⟩ => ⟨I2.kIn, fin us s2 vs H2 I2 r2 q2⟩) (star_plain st2.1) (star_none st2.2)
end Ev
set_option Elab.async false
set_option linter.all false
set_option maxRecDepth 100000
set_option maxHeartbeats 1000000
namespace Ev
open PySem PySem.Spec PyProof.Rows L2
variable {G : Gt} {N : List Str} {S : IsX} {Wx : WX} {sc : Scope} {X : Cx}
/-! ### targets -/
def Off (ix : List Nat) (σ σ' : L2.St) : Prop := σ'.length = σ.length ∧ ∀ i, i ∉ ix → σ'[i]? = σ[i]?
theorem Off.refl {ix : List Nat} {σ : L2.St} : Off ix σ σ := ⟨rfl, fun _ _ => rfl⟩
theorem Off.trans {a b : List Nat} {σ σ1 σ2 : L2.St} (h : Off a σ σ1) (k : Off b σ1 σ2) : Off (a ++ b) σ σ2 :=
  ⟨k.1.trans h.1, fun i hi => (k.2 i fun z => hi (List.mem_append_right _ z)).trans (h.2 i fun z => hi (List.mem_append_left _ z))⟩
theorem Off.mono {a b : List Nat} {σ σ1 : L2.St} (h : Off a σ σ1) (k : ∀ i ∈ a, i ∈ b) : Off b σ σ1 := ⟨h.1, fun i hi => h.2 i fun z => hi (k i z)⟩
def gT (K : PySem.W.Frag) (t : T) : TG := fun v σ H Q => ∃ Hd io ro d ro', Le Hd H ∧ RelD K Hd v d ∧ RelS K Hd io ro σ ∧ asgT t d ro = some ro' ∧ ∀ σ', RelS K Hd io ro' σ' → Off (tIdx t) σ σ' → Q σ' H
def gTs (K : PySem.W.Frag) (t : T) : TGs := fun vs σ H Q => ∃ Hd io ro ds ro', Le Hd H ∧ RelDs K Hd vs ds ∧ RelS K Hd io ro σ ∧ asgTs t ds ro = some ro' ∧ ∀ σ', RelS K Hd io ro' σ' → Off (tIdx t) σ σ' → Q σ' H
theorem PGimp {e : Expr} {t t' : TG} (h : PG X e t) (k : ∀ v σ H Q, t' v σ H Q → t v σ H Q) : PG X e t' := ⟨fun pins s σ H v u Q I r q => h.run pins s σ H v u Q I r (k v σ H Q q)⟩
theorem PGsimp {e : List Expr} {t t' : TGs} (h : PGs X e t) (k : ∀ v σ H Q, t' v σ H Q → t v σ H Q) : PGs X e t' := ⟨fun pins s σ H v u Q I r q => h.run pins s σ H v u Q I r (k v σ H Q q)⟩
theorem asg_star {e : Expr} {es : List Expr} {env : Env} (h : noStar e = true) : assignEach (e :: es) env = (false, assign e env) :: assignEach es env := by
  cases e <;> first | rfl | (cases h; done)
theorem asg_plain {env : Env} : ∀ {es : List Expr}, noStars es = true → (assignEach es env).length = es.length ∧ (assignEach es env).findIdx? (·.1) = none
  | [], _ => ⟨rfl, rfl⟩
  | e :: es, h => by
    simp only [noStars, Bool.and_eq_true] at h
    obtain ⟨h1, h2⟩ := asg_plain (env := env) h.2
    rw [asg_star h.1]
    exact ⟨by simp [h1], by simp [List.findIdx?_cons, h2]⟩
theorem chkTs_stars {og sc : Scope} : ∀ {es : List Expr} {t : T}, chkTs N og sc t es = true → noStars es = true
  | [], _, _ => rfl
  | e :: es, .nm _, h => by simp [chkTs] at h
  | e :: es, .nil, h => by simp [chkTs] at h
  | e :: es, .cons t r, h => by
    simp only [chkTs, Bool.and_eq_true] at h
    simp only [noStars, Bool.and_eq_true]
    exact ⟨h.1.1, chkTs_stars h.2⟩
def tLen : T → Nat
  | .nm _ => 0
  | .nil => 0
  | .cons _ r => tLen r + 1
theorem chkTs_len {og sc : Scope} : ∀ {es : List Expr} {t : T}, chkTs N og sc t es = true → tLen t = es.length
  | [], .nm _, h => by simp [chkTs] at h
  | [], .cons _ _, h => by simp [chkTs] at h
  | [], .nil, _ => rfl
  | e :: es, .nm _, h => by simp [chkTs] at h
  | e :: es, .nil, h => by simp [chkTs] at h
  | e :: es, .cons t r, h => by
    simp only [chkTs, Bool.and_eq_true] at h
    simp [tLen, chkTs_len h.2]
theorem asgTs_len : ∀ {t : T} {ds : List D} {ro ro' : Ro}, asgTs t ds ro = some ro' → ds.length = tLen t
  | .nm _, _, _, _, h => by simp [asgTs] at h
  | .nil, [], _, _, _ => rfl
  | .nil, _ :: _, _, _, h => by simp [asgTs] at h
  | .cons t r, [], _, _, h => by simp [asgTs] at h
  | .cons t r, d :: ds, ro, ro', h => by
    simp only [asgTs] at h
    cases h1 : asgT t d ro with
    | none => rw [h1] at h; cases h
    | some ro1 => rw [h1] at h; simp [tLen, asgTs_len h]
/-- a tuple's target is its parts' -/
theorem asgT_tup {t : T} (ht : ∀ i, t ≠ .nm i) {d : D} {ro ro' : Ro} (h : asgT t d ro = some ro') : ∃ ds, d = .tup ds ∧ asgTs t ds ro = some ro' := by
  cases t with
  | nm i => exact absurd rfl (ht i)
  | nil => cases d <;> first | (simp [asgT] at h; done) | skip
           rename_i ds
           cases ds <;> first | (simp [asgT] at h; done) | skip
           exact ⟨[], rfl, by simpa [asgT, asgTs] using h⟩
  | cons t r => cases d <;> first | (simp [asgT] at h; done) | skip
                rename_i ds
                cases ds <;> first | (simp [asgT] at h; done) | skip
                rename_i d ds
                exact ⟨d :: ds, rfl, by simpa [asgT, asgTs] using h⟩
section
variable (hN : X.N = N) (nd : N.Nodup) (calm : X.calm = true) {og : Scope} (hsc : X.env.scope = sc) (hfn : ∀ x, og.names.lookup x = some .cell → X.fn x = true)
include hN nd calm hsc hfn
theorem loc_of2 {x : Str} (h : locB sc x = true) : L2.Loc X.env.scope x := by
  rw [hsc]
  unfold locB at h
  unfold L2.Loc
  split at h <;> simp_all
mutual
theorem pg_ok : ∀ (t : T) (e : Expr), chkT N og sc t e = true → PG X e (gT X.K t)
  | .nm i, e, h => by
    cases e <;> try (simp [chkT] at h; done)
    rename_i x p
    simp only [chkT, Bool.and_eq_true, decide_eq_true_eq, Bool.or_eq_true] at h
    refine PGimp (pg_name (i := i) (by rw [hN]; exact nd) (by rw [hN]; exact h.1.1) (loc_of2 hN nd calm hsc hfn h.1.2) ?_) fun v σ H Q ⟨Hd, io, ro, d, ro', le, r, rs, ha, q⟩ => ?_
    · rcases h.2 with z | z
      · right; rw [hsc]; exact z
      · exact .inl (hfn x z)
    · simp only [asgT] at ha
      split at ha
      · cases ha
        exact q _ (rs.set i (w := .d d) r) ⟨by simp, fun j hj => by
          simp only [tIdx, List.mem_singleton] at hj
          rw [List.getElem?_set_ne (fun z => hj z.symm)]⟩
      · cases ha
  | .nil, e, h => by
    cases e <;> try (simp [chkT] at h; done)
    rename_i es k p
    cases es with
    | cons _ _ => simp [chkT] at h
    | nil =>
      refine PGimp (pg_tup (n := 0) (t := gTs X.K .nil) calm (pgs_ok .nil [] rfl)) fun v σ H Q ⟨Hd, io, ro, d, ro', le, r, rs, ha, q⟩ => ?_
      obtain ⟨ds, rfl, ha2⟩ := asgT_tup (fun _ z => by cases z) ha
      cases r with
      | tup hs hr => exact ⟨_, _, rfl, le.sqt hs, by rw [hr.length, asgTs_len ha2]; rfl, Hd, io, ro, ds, ro', le, hr, rs, ha2, q⟩
  | .cons t r, e, h => by
    cases e <;> try (simp [chkT] at h; done)
    rename_i es k p
    cases es with
    | nil => simp [chkT] at h
    | cons e es =>
      have h' : chkTs N og sc (.cons t r) (e :: es) = true := by simpa only [chkT, chkTs] using h
      have st := asg_plain (env := X.env) (chkTs_stars h')
      have ih := pgs_ok (.cons t r) (e :: es) h'
      refine PGimp (pg_tup (n := (e :: es).length) calm ih st.1 st.2) fun v σ H Q ⟨Hd, io, ro, d, ro', le, r, rs, ha, q⟩ => ?_
      obtain ⟨ds, rfl, ha2⟩ := asgT_tup (fun _ z => by cases z) ha
      cases r with
      | tup hs hr => exact ⟨_, _, rfl, le.sqt hs, by rw [hr.length, asgTs_len ha2, chkTs_len h'], Hd, io, ro, ds, ro', le, hr, rs, ha2, q⟩
theorem pgs_ok : ∀ (t : T) (es : List Expr), chkTs N og sc t es = true → PGs X es (gTs X.K t)
  | .nm i, es, h => by simp [chkTs] at h
  | .nil, es, h => by
    cases es with
    | cons _ _ => simp [chkTs] at h
    | nil =>
      refine PGsimp pgs_nil fun v σ H Q ⟨Hd, io, ro, ds, ro', le, r, rs, ha, q⟩ => ?_
      cases ds with
      | cons _ _ => simp [asgTs] at ha
      | nil =>
        simp only [asgTs, Option.some.injEq] at ha
        subst ha
        cases r
        exact ⟨rfl, q σ rs Off.refl⟩
  | .cons t r, es, h => by
    cases es with
    | nil => simp [chkTs] at h
    | cons e es =>
      simp only [chkTs, Bool.and_eq_true] at h
      refine PGsimp (pgs_cons (pg_ok t e h.1.2) (pgs_ok r es h.2) (by rw [asg_star h.1.1]; rfl)) fun v σ H Q ⟨Hd, io, ro, ds, ro', le, rr, rs, ha, q⟩ => ?_
      cases ds with
      | nil => simp [asgTs] at ha
      | cons d ds =>
        simp only [asgTs] at ha
        cases h1 : asgT t d ro with
        | none => rw [h1] at ha; cases ha
        | some ro1 =>
          rw [h1] at ha
          cases rr with
          | cons h2 h3 =>
            refine ⟨_, _, rfl, Hd, io, ro, d, ro1, le, h2, rs, h1, fun σ1 rs1 o1 => ?_⟩
            exact ⟨Hd, io, ro1, ds, ro', le, h3, rs1, ha, fun σ2 rs2 o2 => q σ2 rs2 (Off.trans o1 o2)⟩
end
end
/-! ### what is walked over -/
structure Yld (K : PySem.W.Frag) (Hd : Hp) (J : It) (ds : List D) : Prop where
  go : ∀ i H', Le Hd H' → i < ds.length → J.go i H'
  stop : ∀ i H', Le Hd H' → ds.length ≤ i → J.stop i H'
  yld : ∀ i H' x H'', Le Hd H' → i < ds.length → J.yld i H' x H'' → ∃ d, ds[i]? = some d ∧ ((H'' = H' ∧ RelD K Hd x d) ∨ ∃ T vs es, x = .ref T ∧ H' T = none ∧ H'' = upd H' T (.tup vs) ∧ d = .tup es ∧ RelDs K Hd vs es)
def RelJ (K : PySem.W.Frag) (Hd : Hp) (_ : List Addr) (ds : List D) (J : It) : Prop := Yld K Hd J ds
theorem RelDs.at_ {K : PySem.W.Frag} {Hd : Hp} {vs : List V} {ds : List D} (r : RelDs K Hd vs ds) {i : Nat} (h : i < ds.length) : ∃ v d, vs[i]? = some v ∧ ds[i]? = some d ∧ RelD K Hd v d := by
  have hd : ds[i]? = some ds[i] := List.getElem?_eq_getElem h
  obtain ⟨v, h1, h2⟩ := r.get' hd
  exact ⟨v, _, h1, hd, h2⟩
theorem yld_list {K : PySem.W.Frag} {Hd : Hp} {a : Addr} {vs : List V} {ds : List D} (h : SqL K Hd a vs) (r : RelDs K Hd vs ds) : Yld K Hd (Itl K a) ds where
  go i H' le hi := by
    obtain ⟨v, d, h1, h2, h3⟩ := r.at_ hi
    exact ⟨vs, v, le.sql h, h1⟩
  stop i H' le hi := ⟨vs, le.sql h, by rw [r.length]; exact hi⟩
  yld i H' x H'' le hi y := by
    obtain ⟨v, d, h1, h2, h3⟩ := r.at_ hi
    obtain ⟨e, y⟩ := y
    have := y vs (le.sql h)
    rw [h1] at this
    cases this
    exact ⟨d, h2, .inl ⟨e, h3⟩⟩
theorem yld_tup {K : PySem.W.Frag} {Hd : Hp} {a : Addr} {vs : List V} {ds : List D} (h : SqT K Hd a vs) (r : RelDs K Hd vs ds) : Yld K Hd (Itt K a) ds where
  go i H' le hi := by
    obtain ⟨v, d, h1, h2, h3⟩ := r.at_ hi
    exact ⟨vs, v, le.sqt h, h1⟩
  stop i H' le hi := ⟨vs, le.sqt h, by rw [r.length]; exact hi⟩
  yld i H' x H'' le hi y := by
    obtain ⟨v, d, h1, h2, h3⟩ := r.at_ hi
    obtain ⟨e, y⟩ := y
    have := y vs (le.sqt h)
    rw [h1] at this
    cases this
    exact ⟨d, h2, .inl ⟨e, h3⟩⟩
theorem yld_str {K : PySem.W.Frag} {Hd : Hp} {z : Str} : Yld K Hd (Its z) (z.cps.toList.map fun c => .str ⟨#[c]⟩) where
  go i H' le hi := show i < z.cps.size by simpa using hi
  stop i H' le hi := show z.cps.size ≤ i by simpa using hi
  yld i H' x H'' le hi y := by
    obtain ⟨e, c, hc, rfl⟩ := y
    refine ⟨.str ⟨#[c]⟩, ?_, .inl ⟨e, .str _⟩⟩
    rw [List.getElem?_map, Array.getElem?_toList, hc]
    rfl
theorem intsFrom_get : ∀ (n : Nat) (lo : Int) (i : Nat), i < n → (intsFrom lo n)[i]? = some (.int (lo + i))
  | 0, _, _, h => by omega
  | n + 1, lo, 0, _ => by simp [intsFrom]
  | n + 1, lo, i + 1, h => by
    simp only [intsFrom, List.getElem?_cons_succ]
    rw [intsFrom_get n (lo + 1) i (by omega)]
    congr 2
    push_cast
    omega
theorem intsFrom_len : ∀ (n : Nat) (lo : Int), (intsFrom lo n).length = n
  | 0, _ => rfl
  | n + 1, lo => by simp [intsFrom, intsFrom_len n (lo + 1)]
theorem yld_rng {K : PySem.W.Frag} {Hd : Hp} {lo : Int} {n : Nat} : Yld K Hd (Itr lo n) (intsFrom lo n) where
  go i H' le hi := by rw [intsFrom_len] at hi; exact hi
  stop i H' le hi := by rw [intsFrom_len] at hi; exact hi
  yld i H' x H'' le hi y := by
    obtain ⟨e, rfl⟩ := y
    rw [intsFrom_len] at hi
    exact ⟨_, intsFrom_get n lo i hi, .inl ⟨e, .int _⟩⟩
theorem enumFrom_get : ∀ (ds : List D) (k i : Nat) (d : D), ds[i]? = some d → (enumFrom k ds)[i]? = some (.tup [.int ((k + i : Nat) : Int), d])
  | [], _, _, _, h => by simp at h
  | x :: ds, k, 0, d, h => by simp at h; subst h; simp [enumFrom]
  | x :: ds, k, i + 1, d, h => by
    simp only [enumFrom, List.getElem?_cons_succ]
    rw [enumFrom_get ds (k + 1) i d (by simpa using h)]
    have : k + 1 + i = k + (i + 1) := by omega
    rw [this]
theorem enumFrom_len : ∀ (ds : List D) (k : Nat), (enumFrom k ds).length = ds.length
  | [], _ => rfl
  | x :: ds, k => by simp [enumFrom, enumFrom_len ds (k + 1)]
theorem yld_enmT {K : PySem.W.Frag} {Hd : Hp} {a : Addr} {vs : List V} {ds : List D} (h : SqT K Hd a vs) (r : RelDs K Hd vs ds) : Yld K Hd (IteT K a) (enumFrom 0 ds) where
  go i H' le hi := by
    rw [enumFrom_len] at hi
    obtain ⟨v, d, h1, h2, h3⟩ := r.at_ hi
    exact ⟨vs, v, le.sqt h, h1⟩
  stop i H' le hi := by
    rw [enumFrom_len] at hi
    exact ⟨vs, le.sqt h, by rw [r.length]; exact hi⟩
  yld i H' x H'' le hi y := by
    rw [enumFrom_len] at hi
    obtain ⟨v, d, h1, h2, h3⟩ := r.at_ hi
    obtain ⟨T, x, rfl, hT, e, y⟩ := y
    have := y vs (le.sqt h)
    rw [h1] at this
    cases this
    refine ⟨_, enumFrom_get ds 0 i d h2, .inr ⟨T, _, _, rfl, hT, e, rfl, ?_⟩⟩
    rw [Nat.zero_add]
    exact .cons (.int _) (.cons h3 .nil)
theorem yld_enm {K : PySem.W.Frag} {Hd : Hp} {a : Addr} {vs : List V} {ds : List D} (h : SqL K Hd a vs) (r : RelDs K Hd vs ds) : Yld K Hd (Ite K a) (enumFrom 0 ds) where
  go i H' le hi := by
    rw [enumFrom_len] at hi
    obtain ⟨v, d, h1, h2, h3⟩ := r.at_ hi
    exact ⟨vs, v, le.sql h, h1⟩
  stop i H' le hi := by
    rw [enumFrom_len] at hi
    exact ⟨vs, le.sql h, by rw [r.length]; exact hi⟩
  yld i H' x H'' le hi y := by
    rw [enumFrom_len] at hi
    obtain ⟨v, d, h1, h2, h3⟩ := r.at_ hi
    obtain ⟨T, x, rfl, hT, e, y⟩ := y
    have := y vs (le.sql h)
    rw [h1] at this
    cases this
    refine ⟨_, enumFrom_get ds 0 i d h2, .inr ⟨T, _, _, rfl, hT, e, rfl, ?_⟩⟩
    rw [Nat.zero_add]
    exact .cons (.int _) (.cons h3 .nil)
theorem zipD_get : ∀ (ds es : List D) (i : Nat) (d e : D), ds[i]? = some d → es[i]? = some e → (zipD ds es)[i]? = some (.tup [d, e])
  | [], _, _, _, _, h, _ => by simp at h
  | _ :: _, [], _, _, _, _, h => by simp at h
  | x :: ds, y :: es, 0, d, e, h, k => by simp at h k; subst h k; simp [zipD]
  | x :: ds, y :: es, i + 1, d, e, h, k => by
    simp only [zipD, List.getElem?_cons_succ]
    exact zipD_get ds es i d e (by simpa using h) (by simpa using k)
theorem zipD_len : ∀ (ds es : List D), (zipD ds es).length = min ds.length es.length
  | [], _ => by simp [zipD]
  | _ :: _, [] => by simp [zipD]
  | x :: ds, y :: es => by simp [zipD, zipD_len ds es]
theorem yld_zip {K : PySem.W.Frag} {Hd : Hp} {a b : Addr} {vs us : List V} {ds es : List D} (h : SqL K Hd a vs) (r : RelDs K Hd vs ds) (h' : SqL K Hd b us) (r' : RelDs K Hd us es) : Yld K Hd (Itz K a b) (zipD ds es) where
  go i H' le hi := by
    rw [zipD_len] at hi
    obtain ⟨v, d, h1, h2, h3⟩ := r.at_ (i := i) (by omega)
    obtain ⟨v', d', h1', h2', h3'⟩ := r'.at_ (i := i) (by omega)
    exact ⟨vs, us, v, v', le.sql h, le.sql h', h1, h1'⟩
  stop i H' le hi := by
    rw [zipD_len] at hi
    exact ⟨vs, us, le.sql h, le.sql h', by rw [r.length, r'.length]; omega⟩
  yld i H' x H'' le hi y := by
    rw [zipD_len] at hi
    obtain ⟨v, d, h1, h2, h3⟩ := r.at_ (i := i) (by omega)
    obtain ⟨v', d', h1', h2', h3'⟩ := r'.at_ (i := i) (by omega)
    obtain ⟨T, x, x', rfl, hT, e, y, y'⟩ := y
    have := y vs (le.sql h)
    rw [h1] at this
    cases this
    have := y' us (le.sql h')
    rw [h1'] at this
    cases this
    exact ⟨_, zipD_get ds es i d d' h2 h2', .inr ⟨T, _, _, rfl, hT, e, rfl, .cons h3 (.cons h3' .nil)⟩⟩
theorem yld_zipT {K : PySem.W.Frag} {Hd : Hp} {a b : Addr} {vs us : List V} {ds es : List D} (h : SqT K Hd a vs) (r : RelDs K Hd vs ds) (h' : SqT K Hd b us) (r' : RelDs K Hd us es) : Yld K Hd (RZ.ItzT K a b) (zipD ds es) where
  go i H' le hi := by
    rw [zipD_len] at hi
    obtain ⟨v, d, h1, h2, h3⟩ := r.at_ (i := i) (by omega)
    obtain ⟨v', d', h1', h2', h3'⟩ := r'.at_ (i := i) (by omega)
    exact ⟨vs, us, v, v', le.sqt h, le.sqt h', h1, h1'⟩
  stop i H' le hi := by
    rw [zipD_len] at hi
    exact ⟨vs, us, le.sqt h, le.sqt h', by rw [r.length, r'.length]; omega⟩
  yld i H' x H'' le hi y := by
    rw [zipD_len] at hi
    obtain ⟨v, d, h1, h2, h3⟩ := r.at_ (i := i) (by omega)
    obtain ⟨v', d', h1', h2', h3'⟩ := r'.at_ (i := i) (by omega)
    obtain ⟨T, x, x', rfl, hT, e, y, y'⟩ := y
    have := y vs (le.sqt h)
    rw [h1] at this
    cases this
    have := y' us (le.sqt h')
    rw [h1'] at this
    cases this
    exact ⟨_, zipD_get ds es i d d' h2 h2', .inr ⟨T, _, _, rfl, hT, e, rfl, .cons h3 (.cons h3' .nil)⟩⟩
def tI (S : IsX) (W : WX) (G : Gt) (K : PySem.W.Frag) (m : I) : TI := fun σ H R => ∃ Hd io ro st, Rl K Hd io st H ∧ RelS K Hd io ro σ ∧ PX K (eX S W σ) Hd io H (RelJ K) R (evi G m ro st)
def SndI (G : Gt) (N : List Str) (m : I) : Prop := ∀ (S : IsX) (Wx : WX) (sc : Scope) (X : Cx) (e tg : Expr), CtxOk G N S Wx sc X → chki N sc m e = true → (wantTup m = true → isTupE tg = true) → PI X tg e (tI S Wx G X.K m)
theorem PIimp {tg e : Expr} {t t' : TI} (h : PI X tg e t) (k : ∀ σ H R, t' σ H R → t σ H R) : PI X tg e t' := ⟨fun pins s σ H R I q => h.run pins s σ H R I (k σ H R q)⟩
theorem PI_or {tg e : Expr} {t t' : TI} (h : PI X tg e t) (h' : PI X tg e t') : PI X tg e fun σ H R => t σ H R ∨ t' σ H R := ⟨fun pins s σ H R I q => q.elim (h.run pins s σ H R I) (h'.run pins s σ H R I)⟩
theorem sndi_it (m : M) (hm : Snd G N m) : SndI G N (.it m) := by
  intro S Wx sc X e tg c h _
  simp only [chki] at h
  have E := (hm S Wx sc X _ c h).1
  refine PIimp (PI_or (pi_list E) (PI_or (pi_tup E) (pi_str E))) fun σ H Rr ⟨Hd, io, ro, st, l, rs, q⟩ => ?_
  simp only [evi] at q
  cases hr : ev G m ro st with
  | bad => rw [hr] at q; exact q.elim
  | exc x s => rw [hr] at q; exact .inl ⟨Hd, io, ro, st, l, rs, by rw [hr]; exact q⟩
  | ok w st1 =>
    rw [hr, R.bind_ok] at q
    cases hk : keepD st1 w with
    | bad => rw [hk] at q; exact q.elim
    | exc x s => exact (keepD_noexc hk).elim
    | ok d st2 =>
      rw [hk, R.bind_ok] at q
      have fin : ∀ (Q1 : VK), (∀ v H1 Hd2 io1, Ext Hd io H Hd2 io1 H1 → Rl X.K Hd2 io1 st2 H1 → RelD X.K Hd2 v d → Q1 v H1) → tM S Wx G X.K m σ H Q1 := fun Q1 k => ⟨Hd, io, ro, st, l, rs, by
        rw [hr]
        intro v Hd1 io1 H1 e1 l1 r1
        obtain ⟨Hd2, e2, l2, r2⟩ := keepD_ok l1 r1 hk
        exact k v H1 Hd2 io1 (e1.trans e2) l2 r2⟩
      cases d with
      | non => exact q.elim
      | bl b => exact q.elim
      | int i => exact q.elim
      | dic ks xs => exact q.elim
      | exv _ _ _ => exact q.elim
      | lst ds =>
        refine .inl (fin _ fun v H1 Hd2 io1 e1 l2 r2 => ?_)
        cases r2 with
        | lst hs hr => exact ⟨_, rfl, ⟨_, l2.sub.sql (lq hs)⟩, q _ _ _ _ e1 l2 (yld_list (lq hs) hr)⟩
      | scr ns =>
        refine .inl (fin _ fun v H1 Hd2 io1 e1 l2 r2 => ?_)
        cases r2 with
        | scr hs => exact ⟨_, rfl, ⟨_, l2.sub.sql hs⟩, q _ _ _ _ e1 l2 (yld_list hs (RelDs.ints ns))⟩
      | tup ds =>
        refine .inr (.inl (fin _ fun v H1 Hd2 io1 e1 l2 r2 => ?_))
        cases r2 with
        | tup hs hr => exact ⟨_, rfl, ⟨_, l2.sub.sqt hs⟩, q _ _ _ _ e1 l2 (yld_tup hs hr)⟩
      | str z =>
        refine .inr (.inr (fin _ fun v H1 Hd2 io1 e1 l2 r2 => ?_))
        simp only [itemsOf] at q
        split at q
        · cases r2
          exact ⟨z, rfl, q _ _ _ _ e1 l2 yld_str⟩
        · exact q.elim
theorem sndi_rng1 (m : M) (hm : Snd G N m) : SndI G N (.rng1 m) := by
  intro S Wx sc X e tg c h _
  cases e <;> try (simp [chki] at h; done)
  rename_i f xs kw p
  cases f <;> try (simp [chki] at h; done)
  match xs, kw, h with
  | [e], [], h =>
    simp only [chki, Bool.and_eq_true, decide_eq_true_eq] at h
    obtain ⟨⟨⟨rfl, hg⟩, h1⟩, h2⟩ := h
    obtain ⟨g1, g2⟩ := gl_of c hg
    refine PIimp (pi_range1 g1 (c.blt _ (by decide)) (pa_cons (hm S Wx sc X _ c h2).1 pa_nil (star_plain h1)) (star_plain h1)) fun σ H Rr ⟨Hd, io, ro, st, l, rs, q⟩ => ?_
    simp only [evi] at q
    refine ⟨Hd, io, ro, st, l, rs, PX.bind q fun v H1 Hd1 io1 w st1 e1 l1 r1 q => ?_⟩
    split at q
    · rename_i j hp
      split at q
      · rename_i hb
        have := PkD.int (peek_ok l1 r1 hp)
        subst this
        exact ⟨j, rfl, hb.1, by omega, PX.here q l1 yld_rng⟩
      · exact q.elim
    · exact q.elim
theorem sndi_rng2 (a b : M) (ha : Snd G N a) (hb : Snd G N b) : SndI G N (.rng2 a b) := by
  intro S Wx sc X e tg c h _
  cases e <;> try (simp [chki] at h; done)
  rename_i f xs kw p
  cases f <;> try (simp [chki] at h; done)
  match xs, kw, h with
  | [e, f], [], h =>
    simp only [chki, Bool.and_eq_true, decide_eq_true_eq] at h
    obtain ⟨⟨⟨⟨⟨rfl, hg⟩, h1⟩, h2⟩, h3⟩, h4⟩ := h
    obtain ⟨g1, g2⟩ := gl_of c hg
    have s2 := star_plain (env := X.env) (es := []) h2
    have s1 := star_plain (env := X.env) (es := [f]) h1
    refine PIimp (pi_range2 g1 (c.blt _ (by decide)) (pa_cons (ha S Wx sc X _ c h3).1 (pa_cons (hb S Wx sc X _ c h4).1 pa_nil s2) s1) (by rw [s1, s2]; rfl) s2) fun σ H Rr ⟨Hd, io, ro, st, l, rs, q⟩ => ?_
    simp only [evi] at q
    refine ⟨Hd, io, ro, st, l, rs, PX.bind q fun v H1 Hd1 io1 w st1 e1 l1 r1 q => ?_⟩
    refine ⟨Hd1, io1, ro, st1, l1, rs.mono e1, PX.bind q fun u H2 Hd2 io2 w2 st2 e2 l2 r2 q => ?_⟩
    split at q
    · rename_i i j hp hp2
      split at q
      · rename_i hb
        have := PkD.int (peek_ok l2 (r1.mono e2) hp)
        subst this
        have := PkD.int (peek_ok l2 r2 hp2)
        subst this
        exact ⟨i, j, rfl, by omega, PX.here q l2 yld_rng⟩
      · exact q.elim
    · exact q.elim
theorem intsStep_len (c : Int) : ∀ (n : Nat) (lo : Int), (intsStep lo c n).length = n
  | 0, _ => rfl
  | n + 1, lo => by simp [intsStep, intsStep_len c n (lo + c)]
theorem intsStep_get (c : Int) : ∀ (n : Nat) (lo : Int) (i : Nat), i < n → (intsStep lo c n)[i]? = some (.int (lo + (i : Nat) * c))
  | n + 1, lo, 0, _ => by simp [intsStep]
  | n + 1, lo, i + 1, h => by
    simp only [intsStep, List.getElem?_cons_succ]
    rw [intsStep_get c n (lo + c) i (by omega)]
    have : lo + c + (i : Nat) * c = lo + ((i + 1 : Nat) : Int) * c := by
      rw [show ((i + 1 : Nat) : Int) = (i : Int) + 1 from rfl, Int.add_mul, Int.one_mul]
      omega
    rw [this]
theorem yld_rngC {K : PySem.W.Frag} {Hd : Hp} {lo c : Int} {n : Nat} : Yld K Hd (Itc lo c n) (intsStep lo c n) where
  go i H' le hi := by rw [intsStep_len] at hi; exact hi
  stop i H' le hi := by rw [intsStep_len] at hi; exact hi
  yld i H' x H'' le hi y := by
    obtain ⟨e, rfl⟩ := y
    rw [intsStep_len] at hi
    exact ⟨_, intsStep_get c n lo i hi, .inl ⟨e, .int _⟩⟩
theorem sndi_rng3 (a b d : M) (ha : Snd G N a) (hb : Snd G N b) (hd : Snd G N d) : SndI G N (.rng3 a b d) := by
  intro S Wx sc X e tg c h _
  cases e <;> try (simp [chki] at h; done)
  rename_i f xs kw p
  cases f <;> try (simp [chki] at h; done)
  match xs, kw, h with
  | [e, f, g], [], h =>
    simp only [chki, Bool.and_eq_true, decide_eq_true_eq] at h
    obtain ⟨⟨⟨⟨⟨⟨⟨rfl, hg⟩, h1⟩, h2⟩, h2'⟩, h3⟩, h4⟩, h5⟩ := h
    obtain ⟨g1, g2⟩ := gl_of c hg
    have s3 := star_plain (env := X.env) (es := []) h2'
    have s2 := star_plain (env := X.env) (es := [g]) h2
    have s1 := star_plain (env := X.env) (es := [f, g]) h1
    refine PIimp (pi_range3 g1 (c.blt _ (by decide)) (pa_cons (ha S Wx sc X _ c h3).1 (pa_cons (hb S Wx sc X _ c h4).1 (pa_cons (hd S Wx sc X _ c h5).1 pa_nil s3) s2) s1) s1 (star_none (es := [f, g]) (by simp [noStars, h2, h2']))) fun σ H Rr ⟨Hd, io, ro, st, l, rs, q⟩ => ?_
    simp only [evi] at q
    refine ⟨Hd, io, ro, st, l, rs, PX.bind q fun v H1 Hd1 io1 w st1 e1 l1 r1 q => ?_⟩
    refine ⟨Hd1, io1, ro, st1, l1, rs.mono e1, PX.bind q fun u H2 Hd2 io2 w2 st2 e2 l2 r2 q => ?_⟩
    refine ⟨Hd2, io2, ro, st2, l2, (rs.mono e1).mono e2, PX.bind q fun y H3 Hd3 io3 w3 st3 e3 l3 r3 q => ?_⟩
    split at q
    · rename_i i j k hp hp2 hp3
      split at q
      · rename_i hb
        have := PkD.int (peek_ok l3 ((r1.mono e2).mono e3) hp)
        subst this
        have := PkD.int (peek_ok l3 (r2.mono e3) hp2)
        subst this
        have := PkD.int (peek_ok l3 r3 hp3)
        subst this
        unfold rngOk at hb
        simp only [Bool.and_eq_true, decide_eq_true_eq] at hb
        exact ⟨i, j, k, _, rfl, ⟨hb.1, hb.2.1, hb.2.2.1, hb.2.2.2.1⟩, PX.here q l3 yld_rngC⟩
      · exact q.elim
    · exact q.elim
theorem sndi_enm (m : M) (hm : Snd G N m) : SndI G N (.enm m) := by
  intro S Wx sc X e tg c h ht
  cases e <;> try (simp [chki] at h; done)
  rename_i f xs kw p
  cases f <;> try (simp [chki] at h; done)
  cases tg <;> try (cases ht rfl; done)
  match xs, kw, h with
  | [e], [], h =>
    simp only [chki, Bool.and_eq_true, decide_eq_true_eq] at h
    obtain ⟨⟨⟨rfl, hg⟩, h1⟩, h2⟩ := h
    obtain ⟨g1, g2⟩ := gl_of c hg
    refine PIimp (pi_enumA g1 (c.blt _ (by decide)) (pa_cons (hm S Wx sc X _ c h2).1 pa_nil (star_plain h1)) (star_plain h1)) fun σ H Rr ⟨Hd, io, ro, st, l, rs, q⟩ => ?_
    simp only [evi] at q
    refine ⟨Hd, io, ro, st, l, rs, PX.bind q fun v H1 Hd1 io1 w st1 e1 l1 r1 q => ?_⟩
    obtain ⟨d, Hd2, st2, e2, l2, r2, q⟩ := keepD_bind l1 r1 q
    cases d <;> try (exact q.elim)
    · cases r2 with
      | lst hs hr => exact ⟨_, _, rfl, .inl ⟨l2.sub.sql (lq hs), PX.here q l2 (yld_enm (lq hs) hr)⟩⟩
    · cases r2 with
      | tup hs hr => exact ⟨_, _, rfl, .inr ⟨l2.sub.sqt hs, PX.here q l2 (yld_enmT hs hr)⟩⟩
theorem sndi_zip (a b : M) (ha : Snd G N a) (hb : Snd G N b) : SndI G N (.zip a b) := by
  intro S Wx sc X e tg c h ht
  cases e <;> try (simp [chki] at h; done)
  rename_i f xs kw p
  cases f <;> try (simp [chki] at h; done)
  cases tg <;> try (cases ht rfl; done)
  match xs, kw, h with
  | [e, f], [], h =>
    simp only [chki, Bool.and_eq_true, decide_eq_true_eq] at h
    obtain ⟨⟨⟨⟨⟨rfl, hg⟩, h1⟩, h2⟩, h3⟩, h4⟩ := h
    obtain ⟨g1, g2⟩ := gl_of c hg
    have s2 := star_plain (env := X.env) (es := []) h2
    have s1 := star_plain (env := X.env) (es := [f]) h1
    refine PIimp (RZ.pi_zipA g1 (c.blt _ (by decide)) (pa_cons (ha S Wx sc X _ c h3).1 (pa_cons (hb S Wx sc X _ c h4).1 pa_nil s2) s1) s1 (star_none (es := [f]) (by simp [noStars, h2]))) fun σ H Rr ⟨Hd, io, ro, st, l, rs, q⟩ => ?_
    simp only [evi] at q
    refine ⟨Hd, io, ro, st, l, rs, PX.bind q fun v H1 Hd1 io1 w st1 e1 l1 r1 q => ?_⟩
    refine ⟨Hd1, io1, ro, st1, l1, rs.mono e1, PX.bind q fun u H2 Hd2 io2 w2 st2 e2 l2 r2 q => ?_⟩
    obtain ⟨d, Hd3, st3, e3, l3, r3, q⟩ := keepD_bind l2 (r1.mono e2) q
    obtain ⟨d', Hd4, st4, e4, l4, r4, q⟩ := keepD_bind l3 (r2.mono e3) q
    have r3 := RelD.mono e4.hd r3
    cases d <;> cases d' <;> try (exact q.elim)
    · cases r3 with
      | lst hs hr =>
        cases r4 with
        | lst hs' hr' => exact ⟨_, _, _, _, rfl, .inl ⟨l4.sub.sql (lq hs), l4.sub.sql (lq hs'), PX.here q l4 (yld_zip (lq hs) hr (lq hs') hr')⟩⟩
    · cases r3 with
      | tup hs hr =>
        cases r4 with
        | tup hs' hr' => exact ⟨_, _, _, _, rfl, .inr ⟨l4.sub.sqt hs, l4.sub.sqt hs', PX.here q l4 (yld_zipT hs hr hs' hr')⟩⟩
end Ev
set_option Elab.async false
set_option linter.all false
set_option maxRecDepth 100000
set_option maxHeartbeats 1000000
namespace Ev
open PySem PySem.Spec PyProof.Rows L2
variable {G : Gt} {N : List Str} {S : IsX} {Wx : WX} {sc : Scope} {X : Cx}
theorem wipe_in {σ : L2.St} {i : Nat} : ∀ {vs : List Nat}, i ∈ vs → (L2.wipe σ vs)[i]? = if i < σ.length then some none else none
  | [], h => by cases h
  | v :: vs, h => by
    unfold L2.wipe
    by_cases e : v = i
    · subst e
      by_cases hl : v < σ.length
      · rw [List.getElem?_set_self (by rw [wipe_length]; exact hl), if_pos hl]
      · rw [if_neg hl]
        exact List.getElem?_eq_none (by rw [List.length_set, wipe_length]; omega)
    · rw [List.getElem?_set_ne e]
      exact wipe_in (by rcases List.mem_cons.mp h with z | z; exact absurd z.symm e; exact z)
theorem wipe_off {vs : List Nat} {σ σ' : L2.St} (h : Off vs (L2.wipe σ vs) σ') : L2.wipe σ' vs = L2.wipe σ vs := by
  have hl : σ'.length = σ.length := by rw [h.1, wipe_length]
  refine List.ext_getElem? fun i => ?_
  by_cases hi : i ∈ vs
  · rw [wipe_in hi, wipe_in hi, hl]
  · rw [wipe_out hi, h.2 i hi]
/-! ### the hidden list -/
section
variable {K : PySem.W.Frag} {Hd H Hd0 H0 : Hp} {io io0 : List Addr} {st : Store} {p : Addr} {o : HO}
theorem Rl.poke (l : Rl K Hd io st H) (hd : Hd p = none) (hn : p ∉ io) (hno : ∀ x, H p ≠ some (.own x)) : Rl K Hd io st (upd H p o) := by
  have np : ∀ a ∈ io, a ≠ p := fun a ha z => hn (by rw [← z]; exact ha)
  refine ⟨fun a u q => ?_, l.nd, l.len, fun n a c h1 h2 => ?_, fun a ha => by rw [upd_ne (np a ha)]; exact l.liv a ha⟩
  · rw [upd_ne (fun z => by rw [z, hd] at q; cases q)]; exact l.sub _ _ q
  · have hc := l.cel n a c h1 h2
    have na := np a (List.mem_of_getElem? h1)
    cases c with
    | lst ds => obtain ⟨h3, vs, h4, h5⟩ := hc; exact ⟨h3, vs, by rw [upd_ne na]; exact h4, h5⟩
    | dic kvs => obtain ⟨h3, vs, h4, h5⟩ := hc; exact ⟨h3, vs, by rw [upd_ne na]; exact h4, h5⟩
    | frz ds => exact hc
    | obj c fs =>
      obtain ⟨h3, dx, vs, h4, h5, h6, h7, h8⟩ := hc
      have nx : dx ≠ p := fun z => hno _ (by rw [← z]; exact h5)
      exact ⟨h3, dx, vs, by rw [upd_ne na]; exact h4, by rw [upd_ne nx]; exact h5, h6, h7, h8⟩
theorem Ext.poke (e : Ext Hd0 io0 H0 Hd io H) (hp : H0 p = none) : Ext Hd0 io0 H0 Hd io (upd H p o) := by
  refine ⟨e.hd, e.new, e.pre, fun a u h hn => ?_, fun a h => ?_⟩
  · rw [upd_ne (ne_of_none h hp)]; exact e.fr a u h hn
  · by_cases z : a = p
    · rw [z]; exact hp
    · rw [upd_ne z] at h; exact e.liv a h
theorem Ext.keepHid {Hd' H' : Hp} {io' : List Addr} (e : Ext Hd io H Hd' io' H') (hd : Hd p = none) (hn : p ∉ io) (hp : H p = some o) : Hd' p = none ∧ p ∉ io' ∧ H' p = some o := by
  obtain ⟨r, e1, n1⟩ := e.pre
  refine ⟨?_, fun z => ?_, e.fr p o hp hn⟩
  · cases q : Hd' p with
    | none => rfl
    | some u =>
      rcases e.new p hd (by rw [q]; simp) with z | z
      · rw [hp] at z; cases z
      · exact absurd z hn
  · rw [e1] at z
    rcases List.mem_append.mp z with z | z
    · exact hn z
    · have := n1 p z; rw [hp] at this; cases this
end
/-- the state of a comprehension at its turn i -/
def LcAt (K : PySem.W.Frag) (Hd0 : Hp) (io0 : List Addr) (H0 : Hp) (Dd : Addr) (Q : VK) (fc fe : Ro → Store → R W) (t : T) (ro : Ro) (ds : List D) (i m : Nat) (H : Hp) : Prop :=
  m + i = ds.length ∧ ∃ Hd io st vacc acc, Ext Hd0 io0 H0 Hd io H ∧ Rl K Hd io st H ∧ Hd Dd = none ∧ Dd ∉ io ∧ H Dd = some (.lst vacc) ∧ RelDs K Hd vacc acc ∧ acc.length ≤ i ∧
    Post K Hd0 io0 H0 (RelW K) Q ((lcRun fc fe t ro (ds.drop i) st acc).bind fun ds st2 => .ok (.d (.lst ds)) st2)
theorem nox_ok {α : Type} {r : R α} {a : α} {st : Store} (h : r.nox = .ok a st) : r = .ok a st := by
  cases r <;> simp [R.nox] at h ⊢
  exact h
theorem tst_ok {α : Type} {r : R W} {f : Bool → W → Store → R α} (h : r.tst f ≠ .bad) (hx : ∀ x s, r ≠ .exc x s) : ∃ w st b, r = .ok w st ∧ truth st w = some b ∧ r.tst f = f b w st := by
  cases r with
  | bad => exact absurd rfl h
  | exc x s => exact absurd rfl (hx x s)
  | ok w st =>
    cases ht : truth st w with
    | none => exact absurd (by simp [R.tst, ht]) h
    | some b => exact ⟨w, st, b, rfl, ht, by simp [R.tst, ht]⟩
theorem post_bind {K : PySem.W.Frag} {Hd0 : Hp} {io0 : List Addr} {H0 : Hp} {Q : VK} {α : Type} {r : R α} {f : α → Store → R W} (h : Post K Hd0 io0 H0 (RelW K) Q (r.bind f)) : ∃ a st, r = .ok a st ∧ Post K Hd0 io0 H0 (RelW K) Q (f a st) := by
  cases r with
  | bad => exact h.elim
  | exc x s => exact h.elim
  | ok a st => exact ⟨a, st, rfl, h⟩
theorem bind_assoc {α β γ : Type} (r : R α) (f : α → Store → R β) (g : β → Store → R γ) : (r.bind f).bind g = r.bind fun a st => (f a st).bind g := by
  cases r <;> rfl
theorem ifs_cases {ifs : List Expr} {cm : M} {sc : Scope} (h : (match ifs with
      | [] => (match cm with
        | .bl true => true
        | _ => false)
      | [x] => chk N sc cm x
      | _ => false) = true) : (ifs = [] ∧ cm = .bl true) ∨ ∃ x, ifs = [x] ∧ chk N sc cm x = true := by
  split at h
  · split at h
    · exact .inl ⟨rfl, rfl⟩
    · cases h
  · exact .inr ⟨_, rfl, h⟩
  · cases h
structure LcP (G : Gt) (N : List Str) (S : IsX) (Wx : WX) (X : Cx) (own : List Nat) (t : T) (it : I) (cm em : M) (elt tg iter : Expr) (ifs : List Expr) (scope : Scope) : Prop where
  pi : PI X tg iter (tI S Wx G X.K it)
  blk : BlkOk X.N X.env.scope scope (ownN N own)
  pg : ∀ (s : Shared) (H : Hp) (C : Addr) (cl : List (Str × Addr)) (fp : List Addr), PG (X.blk s H scope (compEnvC scope cl C X.env) fp) tg (gT X.K t)
  pt : ∀ (s : Shared) (H : Hp) (C : Addr) (cl : List (Str × Addr)) (fp : List Addr), PTs (X.blk s H scope (compEnvC scope cl C X.env) fp) ifs (tT S (fun _ _ _ _ => False) G X.K cm)
  pe : ∀ (s : Shared) (H : Hp) (C : Addr) (cl : List (Str × Addr)) (fp : List Addr), PE (X.blk s H scope (compEnvC scope cl C X.env) fp) elt (tM S (fun _ _ _ _ => False) G X.K em)
  fold : ∀ x, foldedSetIterable iter X.env x = pure x
  imp : ∀ σ H Q, tM S Wx G X.K (.lc own t it cm em) σ H Q → tLc (tI S Wx G X.K it) (gT X.K t) (tT S (fun _ _ _ _ => False) G X.K cm) (tM S (fun _ _ _ _ => False) G X.K em) ((ownN N own).map (fun x => x.2)) σ H Q
theorem lc_parts (own : List Nat) (t : T) (it : I) (cm em : M) (hi : SndI G N it) (hcm : Snd G N cm) (hem : Snd G N em) (S : IsX) (Wx : WX) (sc : Scope) (X : Cx) {elt : Expr} {gens : List Comprehension} {scope : Scope} {p : Pos} (c : CtxOk G N S Wx sc X) (h : chk N sc (.lc own t it cm em) (.ListComp elt gens scope p) = true) :
    ∃ tg iter ifs, gens = [⟨tg, iter, ifs, 0⟩] ∧ LcP G N S Wx X own t it cm em elt tg iter ifs scope := by
  match gens, h with
  | [g], h =>
    simp only [chk, Bool.and_eq_true, decide_eq_true_eq] at h
    obtain ⟨tg, iter, ifs, asy⟩ := g
    dsimp only at h
    obtain ⟨⟨⟨⟨⟨⟨⟨⟨rfl, h1⟩, h2⟩, h3⟩, h4⟩, h5⟩, h6⟩, h7⟩, h8⟩ := h
    refine ⟨tg, iter, ifs, rfl, ?_⟩
    have PIi := hi S Wx sc X iter tg c h4 (fun z => by
      rw [z] at h3
      simpa using h3)
    have blkOk : ∀ (s : Shared) (H : Hp) (C : Addr) (cl : List (Str × Addr)) (fp : List Addr), CtxOk G N S (fun _ _ _ _ => False) (relS scope sc) (X.blk s H scope (compEnvC scope cl C X.env) fp) := fun s H C cl fp =>
      { hN := c.hN, nd := c.nd, hsc := by rw [← c.hsc]; rfl, calm := c.calm, tk := takes0, gd := c.gd, room := c.room, con := c.con, blt := c.blt, fp := c.fp, fs := c.fs, rm := c.rm, hS := c.hS, ini := c.ini, meth := c.meth, cfl := c.cfl, tix := c.tix, mke := c.mke, sub := c.sub, exm := c.exm, fld := c.fld }
    have B : BlkOk X.N X.env.scope scope (ownN N own) := by
      rw [c.hN, c.hsc]
      exact blkOk_by h8
    have ixs : (ownN N own).map (fun x => x.2) = own := by
      unfold ownN
      rw [List.map_map]
      exact (List.map_congr_left fun i _ => rfl).trans (List.map_id own)
    have inOwn : ∀ i ∈ tIdx t, i ∈ own := fun i hi => by
      have := List.all_eq_true.mp h2 i hi
      simpa using this
    have IFS : ∀ (s : Shared) (H : Hp) (C : Addr) (cl : List (Str × Addr)) (fp : List Addr), PTs (X.blk s H scope (compEnvC scope cl C X.env) fp) ifs (tT S (fun _ _ _ _ => False) G X.K cm) := fun s H C cl fp => by
      rcases ifs_cases h6 with ⟨rfl, rfl⟩ | ⟨x, rfl, h6⟩
      · refine ⟨fun pins s σ H Q I q => pts_nil.run pins s σ H Q I ?_⟩
        obtain ⟨Hd, io, ro, st, l, rs, q⟩ := q
        simp only [ev, R.tst, R.bind_ok, truth, peek, Option.bind, D.truth] at q
        exact PX.here q l rfl
      · exact pts_one (hcm S _ _ _ x (blkOk s H C cl fp) h6).2.1
    refine ⟨PIi, B, fun s H C cl fp => pg_ok (og := scope) (X := X.blk s H scope (compEnvC scope cl C X.env) fp) c.hN c.nd c.calm (blkOk s H C cl fp).hsc (fun x z => by
        show (scope.names.lookup x == some .cell) = true
        rw [z]; decide) t tg h1, IFS, fun s H C cl fp => (hem S _ _ _ elt (blkOk s H C cl fp) h7).1, fun x => by
        cases iter <;> first | rfl | (cases h5; done), fun σ H Q ⟨Hd, io, ro, st, l, rs, q⟩ => ?_⟩
    rw [ixs]
    simp only [ev] at q
    refine ⟨Hd, io, ro, st, l, rs, PX.bind q fun J H0 Hd0 io0 ds st0 e0 l0 y q => ?_⟩
    intro Dd hD
    have rs0 := rs.mono e0
    have q : Post X.K Hd0 io0 H0 (RelW X.K) Q ((lcRun (ev G cm) (ev G em) t (wipeW ro own) ds st0 []).bind fun d2 st2 => .ok (.d (.lst d2)) st2) ∧ ds.length ≤ 1000000 := by
      cases hr : lcRun (ev G cm) (ev G em) t (wipeW ro own) ds st0 [] with
      | bad => rw [hr] at q; exact q.elim
      | exc x s => rw [hr] at q; exact q.elim
      | ok d2 st2 =>
        rw [hr] at q
        simp only [R.nox, R.bind_ok] at q ⊢
        split at q
        · rename_i hz; exact ⟨q, hz⟩
        · exact q.elim
    obtain ⟨q, hz⟩ := q
    refine ⟨LcAt X.K Hd0 io0 H0 Dd Q (ev G cm) (ev G em) t (wipeW ro own) ds, ⟨ds.length, by omega, Hd0, io0, st0, [], [], Ext.poke Ext.refl hD, l0.hide hD, l0.fresh hD, fun z => l0.liv _ z hD, upd_same, .nil, by simp, by simpa using q⟩, fun i m H ⟨hm, Hd1, io1, st1, vacc, acc, e1, l1, d1, d2, d3, ra, la, q⟩ => ?_⟩
    by_cases hi : i < ds.length
    · right
      have le01 : Le Hd0 H := e1.hd.trans l1.sub
      refine ⟨y.go i H le01 hi, fun H' => LcAt X.K Hd0 io0 H0 Dd Q (ev G cm) (ev G em) t (wipeW ro own) ds (i + 1) (m - 1) H', fun H' w => ⟨m - 1, by omega, w⟩, fun x H' yy => ?_⟩
      obtain ⟨d, hd, hx⟩ := y.yld i H x H' le01 hi yy
      have drop_ : ds.drop i = d :: ds.drop (i + 1) := by
        rw [List.drop_eq_getElem_cons hi]
        rw [List.getElem?_eq_getElem hi] at hd
        cases hd
        rfl
      rw [drop_] at q
      simp only [lcRun] at q
      cases ha : asgT t d (wipeW ro own) with
      | none => rw [ha] at q; exact q.elim
      | some ro1 =>
        rw [ha] at q
        dsimp only at q
        -- what is yielded is data
        have got : ∃ Hd2, Ext Hd0 io0 H0 Hd2 io1 H' ∧ Rl X.K Hd2 io1 st1 H' ∧ RelD X.K Hd2 x d ∧ Hd2 Dd = none ∧ H' Dd = some (.lst vacc) ∧ Le Hd1 Hd2 := by
          rcases hx with ⟨rfl, hx⟩ | ⟨T, vs, es, rfl, hT, rfl, rfl, hr⟩
          · exact ⟨Hd1, e1, l1, RelD.mono e1.hd hx, d1, d3, Le.refl _⟩
          · obtain ⟨l2, e2⟩ := l1.newD hT (.tup vs)
            have nT : Dd ≠ T := fun z => by rw [z, hT] at d3; cases d3
            exact ⟨_, e1.trans e2, l2, relD_newTup (l1.fresh hT) (hr.mono e1.hd), by rw [upd_ne nT]; exact d1, by rw [upd_ne nT]; exact d3, e2.hd⟩
        obtain ⟨Hd2, e2, l2, rx, d1', d3', le12⟩ := got
        have rsw : RelS X.K Hd2 io1 (wipeW ro own) (L2.wipe σ own) := (rs0.mono e2).wipe own
        refine ⟨Hd2, io1, wipeW ro own, d, ro1, l2.sub, rx, rsw, ha, fun σ2 rs2 off => ⟨wipe_off (off.mono inOwn), ?_⟩⟩
        obtain ⟨dd, st9, hok, q⟩ := post_bind q
        have hnb : ((ev G cm ro1 st1).tst fun b _ st1 => if b = true then (ev G em ro1 st1).bind fun w st2 => (keepD st2 w).bind fun d st3 => lcRun (ev G cm) (ev G em) t (wipeW ro own) (ds.drop (i + 1)) st3 (acc ++ [d]) else lcRun (ev G cm) (ev G em) t (wipeW ro own) (ds.drop (i + 1)) st1 acc) = .ok dd st9 := hok
        cases hc : ev G cm ro1 st1 with
        | bad => rw [hc] at hnb; cases hnb
        | exc a b => rw [hc] at hnb; cases hnb
        | ok wc st2 =>
          rw [hc] at hnb
          simp only [R.tst, R.bind_ok] at hnb
          cases ht : truth st2 wc with
          | none => rw [ht] at hnb; cases hnb
          | some b =>
            rw [ht] at hnb
            dsimp only at hnb
            refine ⟨Hd2, io1, ro1, st1, l2, rs2, ?_⟩
            rw [hc]
            simp only [R.tst, R.bind_ok]
            rw [ht]
            intro b' Hd3 io3 H3 e3 l3 rb
            cases (show b = b' from rb)
            obtain ⟨k1, k2, k3⟩ := e3.keepHid d1' d2 d3'
            cases b with
            | false =>
              simp only [Bool.false_eq_true, if_false] at hnb ⊢
              refine ⟨by omega, Hd3, io3, st2, vacc, acc, e2.trans e3, l3, k1, k2, k3, ra.mono (le12.trans e3.hd), by omega, ?_⟩
              rw [hnb]
              exact q
            | true =>
              simp only [if_true] at hnb ⊢
              cases he : ev G em ro1 st2 with
              | bad => rw [he] at hnb; cases hnb
              | exc a b => rw [he] at hnb; cases hnb
              | ok we st4 =>
                rw [he, R.bind_ok] at hnb
                cases hk : keepD st4 we with
                | bad => rw [hk] at hnb; cases hnb
                | exc a b => exact (keepD_noexc hk).elim
                | ok d4 st5 =>
                  rw [hk, R.bind_ok] at hnb
                  refine ⟨Hd3, io3, ro1, st2, l3, rs2.mono e3, ?_⟩
                  rw [he]
                  intro v4 Hd4 io4 H4 e4 l4 r4
                  obtain ⟨Hd5, e5, l5, r5⟩ := keepD_ok l4 r4 hk
                  have e45 := e4.trans e5
                  obtain ⟨j1, j2, j3⟩ := e45.keepHid k1 k2 k3
                  have len : vacc.length = acc.length := ra.length
                  refine ⟨vacc, j3, by rw [len, sizeLine_eq]; omega, by omega, Hd5, io4, st5, vacc ++ [v4], acc ++ [d4], ((e2.trans e3).trans e45).poke hD, l5.poke j1 j2 (fun x z => by rw [j3] at z; cases z), j1, j2, upd_same, ?_, by simp; omega, ?_⟩
                  · exact (ra.mono ((le12.trans e3.hd).trans e45.hd)).append (.cons r5 .nil)
                  · rw [hnb]
                    exact q
    · left
      have hi' : ds.length ≤ i := by omega
      refine ⟨y.stop i H (e1.hd.trans l1.sub) hi', ?_⟩
      rw [List.drop_eq_nil_of_le hi'] at q
      simp only [lcRun, R.bind_ok] at q
      obtain ⟨l2, e2⟩ := l1.adoptD e1 hD d1 d2 d3 (fun x z => nomatch z)
      exact q _ _ _ _ e2 l2 (relD_newLst d1 ra)
theorem snd_lc (own : List Nat) (t : T) (it : I) (cm em : M) (hi : SndI G N it) (hcm : Snd G N cm) (hem : Snd G N em) : Snd G N (.lc own t it cm em) := by
  intro S Wx sc X e c h
  cases e <;> try (simp [chk] at h; done)
  rename_i elt gens scope p
  obtain ⟨tg, iter, ifs, rfl, P⟩ := lc_parts own t it cm em hi hcm hem S Wx sc X c h
  refine snd_val ?_ (fun _ => rfl) (fun _ _ _ z => nomatch z)
  exact PEimp (pe_lc c.calm (by rw [c.hN]; exact c.nd) P.pi P.blk P.pg P.pt P.pe P.fold) P.imp
end Ev
namespace Ev
open PySem PySem.Spec PyProof.Rows L2
theorem sound (G : Gt) (N : List Str) (m : M) : Snd G N m :=
  M.rec (motive_1 := Snd G N) (motive_2 := AllSnd G N) (motive_3 := SndI G N)
    snd_var snd_glob snd_non snd_bl snd_int snd_str
    (fun op a b ha hb => snd_bin op a b ha hb) (fun a ha => snd_neg a ha) (fun op a b ha hb => snd_cmp op a b ha hb) (fun op op' a b c ha hb hc => snd_chain op op' a b c ha hb hc)
    (fun a b ha hb => snd_and a b ha hb) (fun a b ha hb => snd_or a b ha hb) (fun a ha => snd_not a ha) (fun c a b hc ha hb => snd_ite c a b hc ha hb)
    (fun es h => snd_tup es h) (fun es h => snd_lst es h) snd_nlst (fun ks es h => snd_dic ks es h) snd_ndic
    (fun d k hd hk => snd_dget d k hd hk) (fun a i ha hi => snd_sub a i ha hi) (fun a lo hi h1 h2 h3 => snd_slc a lo hi h1 h2 h3) snd_absent
    (fun b es h => snd_bi b es h) (fun a t h => snd_isi a t h) (fun m o es h1 h2 => snd_mth m o es h1 h2)
    (fun f es h => snd_callP f es h) (fun f es h => snd_callS f es h)
    (fun x e h => snd_tix x e h) (fun es h => snd_lstc es h) (fun a b ha hb => snd_addc a b ha hb) (fun neg k d hk hd => snd_kin neg k d hk hd)
    (fun c es h => snd_new c es h) (fun o m es ho h => snd_meth o m es ho h)
    (fun c es h => snd_mk c es h) (fun o f h => snd_fld o f h) (fun a y h => snd_isx a y h)
    (fun a h => snd_srts a h) (fun a h => snd_rev a h)
    (fun own t it c e h1 h2 h3 => snd_lc own t it c e h1 h2 h3)
    trivial (fun e r h1 h2 => ⟨h1, h2⟩)
    (fun e h => sndi_it e h) (fun a h => sndi_rng1 a h) (fun a b h1 h2 => sndi_rng2 a b h1 h2) (fun a b c h1 h2 h3 => sndi_rng3 a b c h1 h2 h3) (fun e h => sndi_enm e h) (fun a b h1 h2 => sndi_zip a b h1 h2) m
theorem soundI (G : Gt) (N : List Str) (m : I) : SndI G N m := by
  cases m with
  | it e => exact sndi_it e (sound G N e)
  | rng1 a => exact sndi_rng1 a (sound G N a)
  | rng2 a b => exact sndi_rng2 a b (sound G N a) (sound G N b)
  | rng3 a b c => exact sndi_rng3 a b c (sound G N a) (sound G N b) (sound G N c)
  | enm a => exact sndi_enm a (sound G N a)
  | zip a b => exact sndi_zip a b (sound G N a) (sound G N b)
end Ev
set_option Elab.async false
set_option linter.all false
set_option maxRecDepth 100000
set_option maxHeartbeats 1000000
namespace Ev
open PySem PySem.Spec PyProof.Rows L2
/-! ### statements -/
mutual
inductive S where
  | pass | brk | cnt | retN
  | set (i : Nat) (e : M) | unp (t : T) (e : M) | par (i j : Nat) (a b : M) | par3 (i j k : Nat) (a b c : M)
  | dput (o k v : M) | app (o e : M)
  | expr (e : M) | ret (e : M)
  | ext (o e : M)
  | fset (o : M) (f : Str) (e : M)
  | raise_ (c : Str) (es : Ms) | tryk (b : Ss) (y : Str) (i j : Nat)
  | iff (c : M) (a b : Ss) | for_ (t : T) (it : I) (b : Ss) | whl (n : Nat) (c : M) (b : Ss)
inductive Ss where
  | nil | cons (s : S) (r : Ss)
end
inductive O where
  | nx (ro : Ro) (st : Store)
  | ret (w : W) (st : Store)
  | brk (ro : Ro) (st : Store)
  | cnt (ro : Ro) (st : Store)
  | exc (x : Xv) (ro : Ro) (st : Store)
  | bad
def R.o {α : Type} (r : R α) (ro : Ro) (f : α → Store → O) : O := match r with
  | .ok a st => f a st
  | .exc x st => .exc x ro st
  | .bad => .bad
def R.to (r : R W) (ro : Ro) (f : Bool → Store → O) : O := r.o ro fun w st => match truth st w with
  | some b => f b st
  | none => .bad
def O.then (o : O) (f : Ro → Store → O) : O := match o with
  | .nx ro st => f ro st
  | .ret w st => .ret w st
  | .brk ro st => .brk ro st
  | .cnt ro st => .cnt ro st
  | .exc x ro st => .exc x ro st
  | .bad => .bad
/-- a loop's turn -/
def O.turn (o : O) (f : Ro → Store → O) : O := match o with
  | .nx ro st => f ro st
  | .cnt ro st => f ro st
  | .brk ro st => .nx ro st
  | .ret w st => .ret w st
  | .exc x ro st => .exc x ro st
  | .bad => .bad
@[simp] theorem R.o_ok {α : Type} (a : α) (st : Store) (ro : Ro) (f : α → Store → O) : (R.ok a st).o ro f = f a st := rfl
@[simp] theorem O.then_nx (ro : Ro) (st : Store) (f : Ro → Store → O) : (O.nx ro st).then f = f ro st := rfl
def forRun (body : Ro → Store → O) (t : T) : List D → Ro → Store → O
  | [], ro, st => .nx ro st
  | x :: r, ro, st => match asgT t x ro with
    | none => .bad
    | some ro1 => (body ro1 st).turn fun ro2 st2 => forRun body t r ro2 st2
def whlRun (c : Ro → Store → R W) (body : Ro → Store → O) : Nat → Ro → Store → O
  | 0, _, _ => .bad
  | n + 1, ro, st => (c ro st).to ro fun b st1 => if b = true then (body ro st1).turn fun ro2 st2 => whlRun c body n ro2 st2 else .nx ro st1
def putD (kvs : List (Key × D)) (k : Key) (d : D) : List (Key × D) :=
  if (kvs.any fun kv => decide (kv.1 = k)) = true then kvs.map (fun kv => if kv.1 = k then (kv.1, d) else kv) else kvs ++ [(k, d)]
def setRo (ro : Ro) (i : Nat) (w : W) (st : Store) : O := if i < ro.length then .nx (ro.set i (some w)) st else .bad
def isLst (st : Store) : W → Bool
  | .cell n => (match st[n]? with
    | some (.lst _) => true
    | _ => false)
  | _ => false
def appC (w : W) (d : D) (ro : Ro) (st : Store) : O := match w with
  | .cell n => (match st[n]? with
    | some (.lst ds) => if ds.length < 1000000 then .nx ro (st.set n (.lst (ds ++ [d]))) else .bad
    | _ => .bad)
  | _ => .bad
def extC (w : W) (es : List D) (ro : Ro) (st : Store) : O := match w with
  | .cell n => (match st[n]? with
    | some (.lst ds) => if ds.length + es.length < 1000000 then .nx ro (st.set n (.lst (ds ++ es))) else .bad
    | _ => .bad)
  | _ => .bad
def seqOf : D → Option (List D)
  | .lst ds => some ds
  | .tup ds => some ds
  | _ => none
def fsetC (G : Gt) (f : Str) (w : W) (wo : W) (ro : Ro) (st : Store) : O := match wo with
  | .cell n => (match st[n]? with
    | some (.obj c fs) => if G.cfl c f = true ∧ fs.length < 1000 then .nx ro (st.set n (.obj c (putFW f w fs))) else .bad
    | _ => .bad)
  | _ => .bad
/-- an exception of the class c in the air -/
def flyD : Option D → Ro → Store → O
  | some (.exv c ks xs), ro, st => .exc ⟨c, ks, xs⟩ ro st
  | _, _, _ => .bad
/-- except y as (slot i): (slot j) = (slot i) -/
def O.tryk (G : Gt) (y : Str) (i j : Nat) : O → O
  | .exc x ro st => if G.exm y y = some true then (match G.exm x.cls y with
    | some true => if i < ro.length ∧ j < ro.length then .nx (((ro.set i (some (.d (.exv x.cls x.ks x.xs)))).set j (some (.d (.exv x.cls x.ks x.xs)))).set i none) st else .bad
    | some false => .exc x ro st
    | none => .bad) else .bad
  | .nx ro st => if G.exm y y = some true then .nx ro st else .bad
  | .ret w st => if G.exm y y = some true then .ret w st else .bad
  | .brk ro st => if G.exm y y = some true then .brk ro st else .bad
  | .cnt ro st => if G.exm y y = some true then .cnt ro st else .bad
  | .bad => .bad
mutual
def ex (G : Gt) : S → Ro → Store → O
  | .pass, ro, st => .nx ro st
  | .brk, ro, st => .brk ro st
  | .cnt, ro, st => .cnt ro st
  | .retN, _, st => .ret (.d .non) st
  | .set i e, ro, st => (ev G e ro st).o ro fun w st1 => setRo ro i w st1
  | .unp t e, ro, st => (ev G e ro st).o ro fun w st1 => (keepD st1 w).o ro fun d st2 => (match asgT t d ro with
    | some ro1 => .nx ro1 st2
    | none => .bad)
  | .par i j a b, ro, st => (ev G a ro st).o ro fun w st1 => (ev G b ro st1).o ro fun u st2 => if i < ro.length ∧ j < ro.length then .nx ((ro.set i (some w)).set j (some u)) st2 else .bad
  | .par3 i j k a b c, ro, st => (ev G a ro st).o ro fun w st1 => (ev G b ro st1).o ro fun u st2 => (ev G c ro st2).o ro fun v st3 => if i < ro.length ∧ j < ro.length ∧ k < ro.length then .nx (((ro.set i (some w)).set j (some u)).set k (some v)) st3 else .bad
  | .dput o k v, ro, st => (ev G v ro st).o ro fun wv st1 => (ev G o ro st1).o ro fun wo st2 => (ev G k ro st2).o ro fun wk st3 => (keepD st3 wv).o ro fun d st4 => (match wo, wk with
    | .cell n, .d kd => (match st4[n]?, keyOf kd with
      | some (.dic kvs), some key => if kvs.length < 1000000 then .nx ro (st4.set n (.dic (putD kvs key d))) else .bad
      | _, _ => .bad)
    | _, _ => .bad)
  | .app o e, ro, st => (ev G o ro st).o ro fun wo st1 => if isLst st1 wo = true then (ev G e ro st1).o ro fun we st2 => (keepD st2 we).o ro fun d st3 => appC wo d ro st3 else .bad
  | .expr e, ro, st => (ev G e ro st).o ro fun _ st1 => .nx ro st1
  | .ret e, ro, st => (ev G e ro st).o ro fun w st1 => .ret w st1
  | .ext o e, ro, st => (ev G o ro st).o ro fun wo st1 => if isLst st1 wo = true then (ev G e ro st1).o ro fun we st2 => (keepD st2 we).o ro fun d st3 => (match seqOf d with
    | some es => extC wo es ro st3
    | none => .bad) else .bad
  | .fset o f e, ro, st => (ev G e ro st).o ro fun w st1 => (ev G o ro st1).o ro fun wo st2 => fsetC G f w wo ro st2
  | .raise_ c es, ro, st => (match G.mke c with
    | none => .bad
    | some k => (evs G es ro st).o ro fun ws st1 => (keepAll ws st1).o ro fun ds st2 => flyD (mkD c k ds) ro st2)
  | .tryk b y i j, ro, st => O.tryk G y i j (exs G b ro st)
  | .iff c a b, ro, st => (ev G c ro st).to ro fun k st1 => if k = true then exs G a ro st1 else exs G b ro st1
  | .for_ t it b, ro, st => (evi G it ro st).o ro fun ds st1 => forRun (exs G b) t ds ro st1
  | .whl n c b, ro, st => whlRun (ev G c) (exs G b) n ro st
def exs (G : Gt) : Ss → Ro → Store → O
  | .nil, ro, st => .nx ro st
  | .cons s r, ro, st => (ex G s ro st).then fun ro1 st1 => exs G r ro1 st1
end
/-! ### the text is this -/
def swB (sc : Scope) (v : Expr) (x : Str) (p : Pos) : Bool := match v with
  | .ListComp _ _ s q => decide (sc.names.lookup x = some .local) && (p.line == q.line) && !(s.names.any fun (n, k) => n == x && (k == .local || k == .cell))
  | .SetComp _ _ _ _ => true
  | .DictComp _ _ _ _ _ => true
  | _ => false
def isLC : Expr → Bool
  | .ListComp _ _ _ _ => true
  | _ => false
def notComp : Expr → Bool
  | .ListComp _ _ _ _ => false
  | .SetComp _ _ _ _ => false
  | .DictComp _ _ _ _ _ => false
  | _ => true
def ownB (sc : Scope) (x : Str) : Bool := match sc.names.lookup x with
  | some .local => true
  | some .cell => true
  | _ => false
def swNames (sc : Scope) (line : Nat) (ts : List Expr) : List Str := ts.filterMap fun
  | .Name id pos => if decide (sc.names.lookup id = some .local) && pos.line == line then some id else none
  | _ => none
def noSwap (sc : Scope) (tg v : Expr) : Bool := match v with
  | .Tuple vs _ _ => (match tg with
    | .Tuple ts _ _ => decide (ts.length ≠ vs.length) || decide ((swNames sc ((ts.head?.map (·.pos.line)).getD 0) ts).length ≠ ts.length) || vs.all (foldedForSure 8)
    | _ => false)
  | _ => isTupE tg
mutual
def chkS (N : List Str) : Scope → S → Stmt → Bool
  | _, .pass, .Pass _ => true
  | _, .pass, .Expr (.Constant (.str _) _ _) _ => true
  | _, .brk, .Break _ => true
  | _, .cnt, .Continue _ => true
  | _, .retN, .Return none _ => true
  | sc, .set i e, .Assign [.Name x p] v _ => decide (N[i]? = some x) && ownB sc x && chk N sc e v && (!swB sc v x p || isLC v)
  | sc, .unp t e, .Assign [tg] v _ => chkT N sc sc t tg && chk N sc e v && noSwap sc tg v && notComp v
  | sc, .par i j a b, .Assign [.Tuple [.Name x px, .Name y py] _ _] (.Tuple [u, v] _ _) _ => decide (N[i]? = some x) && decide (N[j]? = some y) && decide (i ≠ j) && decide (sc.names.lookup x = some .local) && decide (sc.names.lookup y = some .local) && (py.line == px.line) && noStar u && noStar v &&
      !([u, v].all (foldedForSure 8)) && !([u, v].all (constantsAlone 8)) && chk N sc a u && chk N sc b v
  | sc, .par3 i j k a b c, .Assign [.Tuple [.Name x px, .Name y py, .Name z pz] _ _] (.Tuple [u, v, w] _ _) _ => decide (N[i]? = some x) && decide (N[j]? = some y) && decide (N[k]? = some z) && decide (i ≠ j ∧ i ≠ k ∧ j ≠ k) && decide (sc.names.lookup x = some .local) && decide (sc.names.lookup y = some .local) && decide (sc.names.lookup z = some .local) &&
      (py.line == px.line) && (pz.line == px.line) && (noStar u && noStar v && noStar w) && !([u, v, w].all (foldedForSure 8)) && !([u, v, w].all (constantsAlone 8)) && chk N sc a u && chk N sc b v && chk N sc c w
  | sc, .dput o k v, .Assign [.Subscript xo xk _] xv _ => chk N sc o xo && chk N sc k xk && chk N sc v xv && notComp xv && noSlice xk
  | sc, .app o e, .Expr (.Call (.Attribute xo nm ap) [x] [] cp) _ => decide (nm = ("append" : Str)) && (ap.endLine == cp.line) && notBare xo && noStar x && chk N sc o xo && chk N sc e x
  | sc, .expr e, .Expr v _ => chk N sc e v && notComp v
  | sc, .ret e, .Return (some v) _ => chk N sc e v
  | sc, .ext o e, .Expr (.Call (.Attribute xo nm ap) [x] [] cp) _ => decide (nm = ("extend" : Str)) && (ap.endLine == cp.line) && notBare xo && noStar x && chk N sc o xo && chk N sc e x
  | sc, .fset o f e, .Assign [.Attribute xo nm _] v _ => decide (nm = f) && chk N sc o xo && chk N sc e v && notComp v
  | sc, .raise_ c es, .Raise (some (.Call (.Name x _) (e :: r) [] _)) none _ => decide (x = c) && glB sc x && chks N sc es (e :: r)
  | sc, .tryk b y i j, .Try body [.ExceptHandler (some (.Name z _)) (some n) [.Assign [.Name v _] (.Name m _) _] _] [] [] _ => decide (z = y) && glB sc z && decide (N[i]? = some n) && decide (sc.names.lookup n = some .local) && !dbg n && !(n == ("__classdict__" : Str)) && decide (m = n) && decide (N[j]? = some v) && ownB sc v && chkSs N sc b body
  | sc, .iff c a b, .If e x y _ => chk N sc c e && chkSs N sc a x && chkSs N sc b y
  | sc, .for_ t it b, .For tg iter body [] _ => chkT N sc sc t tg && (!wantTup it || isTupE tg) && chki N sc it iter && noSet iter && chkSs N sc b body
  | sc, .whl _ c b, .While e body [] _ => chk N sc c e && chkSs N sc b body
  | _, _, _ => false
def chkSs (N : List Str) : Scope → Ss → List Stmt → Bool
  | _, .nil, [] => true
  | sc, .cons s r, x :: xs => chkS N sc s x && chkSs N sc r xs
  | _, _, _ => false
end
/-! ### what a statement asks of the state -/
def PO (K : PySem.W.Frag) (S : IsX) (Wx : WX) (Hd : Hp) (io : List Addr) (H : Hp) (D : Ends) : O → Prop
  | .nx ro st => ∀ σ Hd' io' H', Ext Hd io H Hd' io' H' → Rl K Hd' io' st H' → RelS K Hd' io' ro σ → D.nx σ H'
  | .brk ro st => ∀ σ Hd' io' H', Ext Hd io H Hd' io' H' → Rl K Hd' io' st H' → RelS K Hd' io' ro σ → D.bk σ H'
  | .cnt ro st => ∀ σ Hd' io' H', Ext Hd io H Hd' io' H' → Rl K Hd' io' st H' → RelS K Hd' io' ro σ → D.ct σ H'
  | .ret w st => ∀ v Hd' io' H', Ext Hd io H Hd' io' H' → Rl K Hd' io' st H' → RelW K Hd' io' w v → D.rt v H'
  | .exc x ro st => ∀ σ cls d Hd' io' H', Ext Hd io H Hd' io' H' → Rl K Hd' io' st H' → RelS K Hd' io' ro σ → S x cls d Hd' → Wx cls d σ H'
  | .bad => False
section
variable {K : PySem.W.Frag} {S : IsX} {Wx : WX} {Hd H : Hp} {io : List Addr} {Dn : Ends}
theorem PO.ext {Hd1 H1 : Hp} {io1 : List Addr} {o : O} (e : Ext Hd io H Hd1 io1 H1) (h : PO K S Wx Hd io H Dn o) : PO K S Wx Hd1 io1 H1 Dn o := by
  cases o with
  | bad => exact h
  | nx ro st => exact fun σ a b c e1 => h σ a b c (e.trans e1)
  | brk ro st => exact fun σ a b c e1 => h σ a b c (e.trans e1)
  | cnt ro st => exact fun σ a b c e1 => h σ a b c (e.trans e1)
  | ret w st => exact fun σ a b c e1 => h σ a b c (e.trans e1)
  | exc x ro st => exact fun σ cls d a b c e1 => h σ cls d a b c (e.trans e1)
theorem PO.bind {α β : Type} {Rel : Hp → List Addr → α → β → Prop} {r : R α} {ro : Ro} {f : α → Store → O} {σ : L2.St} {Q1 : β → Hp → Prop} (rs : RelS K Hd io ro σ) (h : PO K S Wx Hd io H Dn (r.o ro f))
    (k : ∀ v H1 Hd1 io1 w st1, Ext Hd io H Hd1 io1 H1 → Rl K Hd1 io1 st1 H1 → RelS K Hd1 io1 ro σ → Rel Hd1 io1 w v → PO K S Wx Hd1 io1 H1 Dn (f w st1) → Q1 v H1) : PX K (eX S Wx σ) Hd io H Rel Q1 r := by
  cases r with
  | bad => exact h
  | exc x st => exact fun a b c e l cls d q => h σ cls d a b c e l (rs.mono e) q
  | ok w st => exact fun v a b c e l r => k v c a b w st e l (rs.mono e) r (PO.ext e h)
theorem PO.tst {r : R W} {ro : Ro} {f : Bool → Store → O} {σ : L2.St} {Q1 : Bool → Hp → Prop} (rs : RelS K Hd io ro σ) (h : PO K S Wx Hd io H Dn (r.to ro f))
    (k : ∀ b H1 Hd1 io1 st1, Ext Hd io H Hd1 io1 H1 → Rl K Hd1 io1 st1 H1 → RelS K Hd1 io1 ro σ → PO K S Wx Hd1 io1 H1 Dn (f b st1) → Q1 b H1) : PX K (eX S Wx σ) Hd io H RelB Q1 (r.tst fun b _ st1 => .ok b st1) := by
  cases r with
  | bad => exact h
  | exc x st => exact fun a b c e l cls d q => h σ cls d a b c e l (rs.mono e) q
  | ok w st =>
    simp only [R.to, R.o_ok, R.tst, R.bind_ok] at h ⊢
    cases ht : truth st w with
    | none => rw [ht] at h; exact h
    | some b =>
      rw [ht] at h
      intro b' Hd1 io1 H1 e1 l1 rb
      cases (show b = b' from rb)
      exact k b H1 Hd1 io1 st e1 l1 (rs.mono e1) (PO.ext e1 h)
theorem PO.keep {w : W} {v : V} {st : Store} {ro : Ro} {f : D → Store → O} (l : Rl K Hd io st H) (r : RelW K Hd io w v) (h : PO K S Wx Hd io H Dn ((keepD st w).o ro f)) :
    ∃ d Hd' st', Ext Hd io H Hd' io H ∧ Rl K Hd' io st' H ∧ RelD K Hd' v d ∧ PO K S Wx Hd' io H Dn (f d st') ∧ keepD st w = .ok d st' := by
  cases h1 : keepD st w with
  | bad => rw [h1] at h; exact h.elim
  | exc x s => exact (keepD_noexc h1).elim
  | ok d st1 =>
    rw [h1] at h
    obtain ⟨Hd1, e1, l1, r1⟩ := keepD_ok l r h1
    exact ⟨d, Hd1, st1, e1, l1, r1, PO.ext e1 h, rfl⟩
end
def tS (S : IsX) (Wx : WX) (G : Gt) (K : PySem.W.Frag) (s : Ev.S) : TS := fun D σ H => ∃ Hd io ro st, Rl K Hd io st H ∧ RelS K Hd io ro σ ∧ PO K S Wx Hd io H D (ex G s ro st)
def tSs (S : IsX) (Wx : WX) (G : Gt) (K : PySem.W.Frag) (s : Ss) : TS := fun D σ H => ∃ Hd io ro st, Rl K Hd io st H ∧ RelS K Hd io ro σ ∧ PO K S Wx Hd io H D (exs G s ro st)
structure FnOf (sc : Scope) (X : Cx) : Prop where
  fn : ∀ x, sc.names.lookup x = some .cell → X.fn x = true
  pass : PassesOwn (model X.prog X.w) X.A X.env X.xe
  kind : sc.kind = .function
  stk : X.stack = X.env :: X.outer
  frm : X.env.frame = some X.env.locals
  noex : X.ex = []
theorem PSimp {X : Cx} {s : Stmt} {t t' : TS} (h : PS X s t) (k : ∀ D σ H, t' D σ H → t D σ H) : PS X s t' := ⟨fun pins s σ H D I q => h.run pins s σ H D I (k D σ H q)⟩
theorem PSsimp {X : Cx} {s : List Stmt} {t t' : TS} (h : PSs X s t) (k : ∀ D σ H, t' D σ H → t D σ H) : PSs X s t' := ⟨fun pins s σ H D I q => h.run pins s σ H D I (k D σ H q)⟩
def SndS (G : Gt) (N : List Str) (s : Ev.S) : Prop := ∀ (S : IsX) (Wx : WX) (sc : Scope) (X : Cx) (x : Stmt), CtxOk G N S Wx sc X → FnOf sc X → chkS N sc s x = true → PS X x (tS S Wx G X.K s)
def SndSs (G : Gt) (N : List Str) (s : Ss) : Prop := ∀ (S : IsX) (Wx : WX) (sc : Scope) (X : Cx) (x : List Stmt), CtxOk G N S Wx sc X → FnOf sc X → chkSs N sc s x = true → PSs X x (tSs S Wx G X.K s)
variable {G : Gt} {N : List Str} {S : IsX} {Wx : WX} {sc : Scope} {X : Cx}
theorem own_of (c : CtxOk G N S Wx sc X) (f : FnOf sc X) {x : Str} (h : ownB sc x = true) : L2.Loc X.env.scope x ∧ (X.fn x = true ∨ X.env.scope.names.lookup x = some .local) := by
  rw [c.hsc]
  unfold ownB at h
  split at h
  · rename_i e; exact ⟨.inl e, .inr e⟩
  · rename_i e; exact ⟨.inr e, .inl (f.fn x e)⟩
  · cases h
theorem noComp_sw {v : Expr} {t : Option Expr} {l : Nat} {env : Env} (h : notComp v = true) : swapsWith v t l env = pure false := by
  cases v <;> first | rfl | (cases h; done)
theorem snds_nil : SndSs G N .nil := by
  intro S Wx sc X x c f h
  cases x with
  | cons _ _ => simp [chkSs] at h
  | nil =>
    refine PSsimp pss_nil fun D σ H ⟨Hd, io, ro, st, l, rs, q⟩ => ?_
    simp only [exs] at q
    exact q σ Hd io H Ext.refl l rs
theorem PO.then {K : PySem.W.Frag} {Hd : Hp} {io : List Addr} {H : Hp} {D : Ends} {o : O} {g : Ro → Store → O} {u : TS} (h : PO K S Wx Hd io H D (o.then g))
    (k : ∀ ro st σ Hd1 io1 H1, Ext Hd io H Hd1 io1 H1 → Rl K Hd1 io1 st H1 → RelS K Hd1 io1 ro σ → PO K S Wx Hd1 io1 H1 D (g ro st) → u D σ H1) : PO K S Wx Hd io H { D with nx := u D } o := by
  cases o with
  | bad => exact h
  | nx ro st => exact fun σ a b c e l rs => k ro st σ a b c e l rs (PO.ext e h)
  | brk ro st => exact h
  | cnt ro st => exact h
  | ret w st => exact h
  | exc x ro st => exact h
theorem snds_cons {s : Ev.S} {r : Ss} (hs : SndS G N s) (hr : SndSs G N r) : SndSs G N (.cons s r) := by
  intro S Wx sc X x c f h
  cases x with
  | nil => simp [chkSs] at h
  | cons y ys =>
    simp only [chkSs, Bool.and_eq_true] at h
    refine PSsimp (pss_cons (hs S Wx sc X y c f h.1) (hr S Wx sc X ys c f h.2)) fun D σ H ⟨Hd, io, ro, st, l, rs, q⟩ => ?_
    simp only [exs] at q
    exact ⟨Hd, io, ro, st, l, rs, PO.then q fun ro1 st1 σ1 Hd1 io1 H1 e1 l1 rs1 q1 => ⟨Hd1, io1, ro1, st1, l1, rs1, q1⟩⟩
theorem snd_pass : SndS G N .pass := by
  intro S Wx sc X x c f h
  have key : ∀ D σ H, tS S Wx G X.K .pass D σ H → tNext D σ H := fun D σ H ⟨Hd, io, ro, st, l, rs, q⟩ => by
    simp only [ex] at q
    exact q σ Hd io H Ext.refl l rs
  cases x <;> try (simp [chkS] at h; done)
  · rename_i e p
    cases e <;> try (simp [chkS] at h; done)
    rename_i k _ _
    cases k <;> try (simp [chkS] at h; done)
    exact PSimp ps_doc key
  · exact PSimp ps_pass key
theorem snd_brk : SndS G N .brk := by
  intro S Wx sc X x c f h
  cases x <;> try (simp [chkS] at h; done)
  exact PSimp ps_break fun D σ H ⟨Hd, io, ro, st, l, rs, q⟩ => by
    simp only [ex] at q
    exact q σ Hd io H Ext.refl l rs
theorem snd_cnt : SndS G N .cnt := by
  intro S Wx sc X x c f h
  cases x <;> try (simp [chkS] at h; done)
  exact PSimp ps_continue fun D σ H ⟨Hd, io, ro, st, l, rs, q⟩ => by
    simp only [ex] at q
    exact q σ Hd io H Ext.refl l rs
theorem snd_retN : SndS G N .retN := by
  intro S Wx sc X x c f h
  cases x <;> try (simp [chkS] at h; done)
  rename_i v p
  cases v with
  | some _ => simp [chkS] at h
  | none =>
    refine PSimp ps_retN fun D σ H ⟨Hd, io, ro, st, l, rs, q⟩ => ?_
    simp only [ex] at q
    exact q .non Hd io H Ext.refl l .non
theorem setRo_ok {K : PySem.W.Frag} {Hd : Hp} {io : List Addr} {H : Hp} {D : Ends} {ro : Ro} {i : Nat} {w : W} {v : V} {st : Store} {σ : L2.St} (q : PO K S Wx Hd io H D (setRo ro i w st)) (l : Rl K Hd io st H) (rs : RelS K Hd io ro σ) (r : RelW K Hd io w v) : D.nx (σ.set i (some v)) H := by
  unfold setRo at q
  split at q
  · exact q _ Hd io H Ext.refl l (rs.set i r)
  · exact q.elim
theorem snd_set (i : Nat) (e : M) : SndS G N (.set i e) := by
  intro S Wx sc X x c f h
  cases x <;> try (simp [chkS] at h; done)
  rename_i ts v p
  cases ts with
  | nil => simp [chkS] at h
  | cons t ts =>
    cases ts with
    | cons _ _ => cases t <;> simp [chkS] at h
    | nil =>
      cases t <;> try (simp [chkS] at h; done)
      rename_i x px
      simp only [chkS, Bool.and_eq_true, decide_eq_true_eq, Bool.or_eq_true, Bool.not_eq_true'] at h
      obtain ⟨⟨⟨h1, h2⟩, h3⟩, h4⟩ := h
      obtain ⟨o1, o2⟩ := own_of c f h2
      have hN : X.N.Nodup := by rw [c.hN]; exact c.nd
      have hi : X.N[i]? = some x := by rw [c.hN]; exact h1
      have key : ∀ D σ H, tS S Wx G X.K (.set i e) D σ H → tAsg (tM S Wx G X.K e) (gName i) D σ H := fun D σ H ⟨Hd, io, ro, st, l, rs, q⟩ => by
        simp only [ex] at q
        exact ⟨Hd, io, ro, st, l, rs, PO.bind rs q fun v H1 Hd1 io1 w st1 e1 l1 rs1 r1 q => setRo_ok q l1 rs1 r1⟩
      cases hsw : swB sc v x px with
      | false =>
        refine PSimp (ps_set hN hi o1 (sound G N e S Wx sc X v c h3).1 ?_ o2) key
        cases v <;> first | rfl | skip
        · rename_i elt gens scope q
          have kx : X.env.kindOf x = sc.names.lookup x := by unfold Env.kindOf; rw [c.hsc]
          unfold swapsWith
          simp only [kx]
          have : (sc.names.lookup x == some NameKind.local && px.line == q.line && !(scope.names.any fun (n, k) => n == x && (k == .local || k == .cell))) = false := by
            unfold swB at hsw
            by_cases z : sc.names.lookup x = some .local
            · rw [z] at hsw ⊢; simpa using hsw
            · have : (sc.names.lookup x == some NameKind.local) = false := by simpa using z
              rw [this]; rfl
          show pure _ = pure false
          congr 1
          rw [Bool.and_assoc, Bool.and_assoc, ← Bool.and_assoc (sc.names.lookup x == some NameKind.local)]
          show (_ && (_ && _ && _)) = false
          rw [show (List.lookup x sc.names == some NameKind.local && (px.line == (Expr.ListComp elt gens scope q).pos.line) && !(scope.names.any fun (n, k) => n == x && (k == .local || k == .cell))) = false from this]
          exact Bool.and_false _
        · cases hsw
        · cases hsw
      | true =>
        have h4 : isLC v = true := by
          rcases h4 with z | z
          · rw [z] at hsw; cases hsw
          · exact z
        cases v <;> try (cases h4; done)
        rename_i elt gens scope q
        cases e <;> try (simp [chk] at h3; done)
        rename_i own t it cm em
        obtain ⟨tg, iter, ifs, rfl, P⟩ := lc_parts own t it cm em (soundI G N it) (sound G N cm) (sound G N em) S Wx sc X c h3
        unfold swB at hsw
        simp only [Bool.and_eq_true, decide_eq_true_eq, Bool.not_eq_true'] at hsw
        refine PSimp (ps_setLc c.calm hN hi (by rw [c.hsc]; exact hsw.1.1) (sw_true (by rw [c.hsc]; exact f.kind) (by rw [c.hsc]; exact hsw.1.1) hsw.1.2 hsw.2) P.pi P.blk P.pg P.pt P.pe P.fold) fun D σ H q => ?_
        exact P.imp σ H _ (key D σ H q)
end Ev
set_option Elab.async false
set_option linter.all false
set_option maxRecDepth 100000
set_option maxHeartbeats 1000000
namespace Ev
open PySem PySem.Spec PyProof.Rows L2
/-! ### raise, try .. except X as e: y = e -/
section
variable {K : PySem.W.Frag} {S : IsX} {Wx : WX} {Hd H : Hp} {io : List Addr} {Dn : Ends}
theorem PO.keepAll {ws : List W} {vs : List V} {st : Store} {ro : Ro} {f : List D → Store → O} (l : Rl K Hd io st H) (r : RelWs K Hd io ws vs) (h : PO K S Wx Hd io H Dn ((keepAll ws st).o ro f)) :
    ∃ ds Hd' st', Ext Hd io H Hd' io H ∧ Rl K Hd' io st' H ∧ RelDs K Hd' vs ds ∧ PO K S Wx Hd' io H Dn (f ds st') := by
  cases h1 : Ev.keepAll ws st with
  | bad => rw [h1] at h; exact h.elim
  | exc x s => exact (keepAll_noexc h1).elim
  | ok d st1 =>
    rw [h1] at h
    obtain ⟨Hd1, e1, l1, r1⟩ := keepAll_ok l r h1
    exact ⟨d, Hd1, st1, e1, l1, r1, PO.ext e1 h⟩
end
variable {G : Gt} {N : List Str} {S : IsX} {Wx : WX} {sc : Scope} {X : Cx}
theorem sounds (G : Gt) (N : List Str) {m : Ms} : SndA G N m := by
  intro S Wx sc X es c h
  induction es generalizing m with
  | nil =>
    cases m with
    | nil => exact snds (m := .nil) trivial S Wx sc X [] c h
    | cons _ _ => simp [chks] at h
  | cons e es ih =>
    cases m with
    | nil => simp [chks] at h
    | cons m r =>
      simp only [chks, Bool.and_eq_true] at h
      refine PAimp (pa_cons (sound G N m S Wx sc X _ c h.1.2).1 (ih h.2) (star_plain h.1.1)) fun σ H Q ⟨Hd, io, ro, st, l, rs, q⟩ => ?_
      simp only [evs] at q
      refine ⟨Hd, io, ro, st, l, rs, PX.bind q fun v H1 Hd1 io1 w st1 e1 l1 r1 q => ?_⟩
      exact ⟨Hd1, io1, ro, st1, l1, rs.mono e1, PX.bind q fun vs H2 Hd2 io2 ws st2 e2 l2 r2 q => PX.here q l2 (.cons (r1.mono e2) r2)⟩
theorem snd_raise (y : Str) (es : Ms) : SndS G N (.raise_ y es) := by
  intro S Wx sc X x c f h
  unfold chkS at h
  split at h <;> first | (cases h; done) | (rename_i q; cases q; done) | skip
  rename_i _ _ y' es' x px a r p2 p heq
  cases heq
  simp only [Bool.and_eq_true, decide_eq_true_eq] at h
  obtain ⟨⟨rfl, hg⟩, h1⟩ := h
  obtain ⟨g1, g2⟩ := gl_of c hg
  have st := chks_stars h1
  have st' := st
  simp only [noStars, Bool.and_eq_true] at st'
  have hS := c.hS
  subst hS
  cases hm : G.mke x with
  | none =>
    refine PSimp (t := fun _ _ _ => False) ⟨fun _ _ _ _ _ _ h => h.elim⟩ fun D σ H ⟨Hd, io, ro, st, l, rs, q⟩ => ?_
    simp only [ex, hm] at q
    exact q
  | some k =>
    cases k with
    | own =>
      refine PSimp (ps_raise c.calm c.tk (pmk_own0 (ta := tMs (isXv X.K) Wx G X.K es) (fun _ _ _ _ => tMs_mono) (c.mke _ _ hm) g1 (sounds G N _ Wx _ X _ c h1) g2 (star_plain st'.1) (star_none st'.2))) fun D σ H ⟨Hd, io, ro, st, l, rs, q⟩ => ?_
      simp only [ex, hm] at q
      refine ⟨Hd, io, ro, st, l, rs, PO.bind (Rel := RelWs X.K) rs q fun vs H1 Hd1 io1 ws st1 e1 l1 rs1 r1 q => ?_⟩
      obtain ⟨ds, Hd2, st2, e2, l2, r2, q⟩ := PO.keepAll l1 r1 q
      simp only [mkD] at q
      split at q
      · rename_i hz
        exact ⟨by rw [r2.length]; exact hz, q _ _ _ _ _ _ Ext.refl l2 (rs1.mono e2) ⟨rfl, .inl ⟨rfl, rfl, rfl⟩⟩⟩
      · exact q.elim
    | ini f fs =>
      refine PSimp (ps_raise c.calm c.tk (pmk_ini (ta := tMs (isXv X.K) Wx G X.K es) (fun _ _ _ _ => tMs_mono) (c.mke _ _ hm) c.rm g1 (sounds G N _ Wx _ X _ c h1) g2 (star_plain st'.1) (star_none st'.2))) fun D σ H ⟨Hd, io, ro, st, l, rs, q⟩ => ?_
      simp only [ex, hm] at q
      refine ⟨Hd, io, ro, st, l, rs, PO.bind (Rel := RelWs X.K) rs q fun vs H1 Hd1 io1 ws st1 e1 l1 rs1 r1 q => ?_⟩
      obtain ⟨ds, Hd2, st2, e2, l2, r2, q⟩ := PO.keepAll l1 r1 q
      simp only [mkD] at q
      split at q
      · rename_i hz
        have hl : vs.length = (f :: fs).length := by rw [r2.length]; exact hz.1
        refine ⟨by rw [r2.length]; exact hz.2, hl, fun d nd => ?_⟩
        rw [zip_rev hl.symm]
        obtain ⟨l3, e3⟩ := l2.newD nd (.xd ((f :: fs).reverse.zip vs.reverse))
        exact q _ _ _ _ _ _ e3 l3 ((rs1.mono e2).mono e3) ⟨rfl, .inr ⟨d, vs.reverse, rfl, upd_same, by simp only [List.length_reverse]; exact hl.symm, r2.reverse.mono e3.hd⟩⟩
      · exact q.elim
theorem ctx_tr {pn : List (Addr × Obj)} {xe : Value → Shared → Prop} {W : WX} (c : CtxOk G N S Wx sc X) (tk : Takes (X.tr pn xe) W) : CtxOk G N S W sc (X.tr pn xe) :=
  { hN := c.hN, nd := c.nd, hsc := c.hsc, calm := c.calm, tk := tk, gd := c.gd, room := c.room, con := c.con, blt := c.blt, fp := c.fp, fs := c.fs, rm := c.rm, hS := c.hS, ini := c.ini, meth := c.meth, cfl := c.cfl, tix := c.tix, mke := c.mke, sub := c.sub, exm := c.exm, fld := c.fld }
theorem fnOf_tr {pn : List (Addr × Obj)} {xe : Value → Shared → Prop} (f : FnOf sc X) (ps : PassesOwn (model X.prog X.w) X.A X.env xe) : FnOf sc (X.tr pn xe) :=
  ⟨f.fn, ps, f.kind, f.stk, f.frm, f.noex⟩
theorem snd_tryk (b : Ss) (y : Str) (i j : Nat) (hb : SndSs G N b) : SndS G N (.tryk b y i j) := by
  intro S Wx sc X x c f h
  unfold chkS at h
  split at h <;> first | (cases h; done) | (rename_i q; cases q; done) | skip
  rename_i _ _ b' y' i' j' body z np n v vp m mp ap ep p heq
  cases heq
  simp only [Bool.and_eq_true, decide_eq_true_eq, Bool.not_eq_true'] at h
  obtain ⟨⟨⟨⟨⟨⟨⟨⟨⟨rfl, hz⟩, hi⟩, hl⟩, hd1⟩, hd2⟩, rfl⟩, hj⟩, hv⟩, hbd⟩ := h
  obtain ⟨z1, z2⟩ := gl_of c hz
  obtain ⟨o1, o2⟩ := own_of c f hv
  have hS := c.hS
  subst hS
  by_cases hy : G.exm z z = some true
  · obtain ⟨hm, _⟩ := c.exm _ _ _ hy
    have hN : X.N.Nodup := by rw [c.hN]; exact c.nd
    have hi' : X.N[i]? = some m := by rw [c.hN]; exact hi
    have hj' : X.N[j]? = some v := by rw [c.hN]; exact hj
    have hk : X.env.kindOf m = some .local := by unfold Env.kindOf; rw [c.hsc]; exact hl
    refine PSimp (ps_try_v (i := i) (c := .ref (He.ga X.K z)) (tb := fun W => tSs (isXv X.K) W G X.K b) (ts := tSeq (tAsg (tVar i) (gName j)) tNext) f.stk f.frm f.noex hN hi' hk ⟨z1, z2, .inl hm⟩ c.tk (fun W pn xe tk ps => hb _ W _ _ body (ctx_tr c tk) (fnOf_tr f ps) hbd)
      (fun a pn => pss_cons (ps_set (X := X.suite a pn) hN hj' o1 (pe_var (X := X.suite a pn) hi' (.inl hk) hd1 hd2) swaps_name o2) pss_nil)) fun D σ H ⟨Hd, io, ro, st, l, rs, q⟩ => ?_
    simp only [ex] at q
    refine ⟨Hd, io, ro, st, l, rs, ?_⟩
    cases ho : exs G b ro st with
    | bad => rw [ho] at q; exact q
    | nx ro st => rw [ho] at q; simp only [O.tryk, if_pos hy] at q; exact q
    | ret w st => rw [ho] at q; simp only [O.tryk, if_pos hy] at q; exact q
    | brk ro st => rw [ho] at q; simp only [O.tryk, if_pos hy] at q; exact q
    | cnt ro st => rw [ho] at q; simp only [O.tryk, if_pos hy] at q; exact q
    | exc x ro1 st1 =>
      rw [ho] at q
      simp only [O.tryk, if_pos hy] at q
      intro σ' cls d Hd' io' H' e1 l1 rs1 hx
      have hx0 := hx
      obtain ⟨hcls, hx⟩ := hx
      cases hm2 : G.exm x.cls z with
      | none => rw [hm2] at q; exact q.elim
      | some bb =>
        rw [hm2] at q
        obtain ⟨_, hq⟩ := c.exm _ _ _ hm2
        refine ⟨bb, by rw [hcls]; exact hq, fun hb1 a na => ?_, fun hb0 => ?_⟩
        · subst hb1
          dsimp only at q
          split at q
          · rename_i hij
            have rel : ∃ Hd2, Ext Hd' io' H' Hd2 io' (upd H' a (exq cls d a)) ∧ Rl X.K Hd2 io' st1 (upd H' a (exq cls d a)) ∧ RelD X.K Hd2 (.ref a) (.exv x.cls x.ks x.xs) := by
              obtain ⟨l2, e2⟩ := l1.newD na (exq cls d a)
              refine ⟨_, e2, l2, ?_⟩
              subst hcls
              rcases hx with ⟨rfl, h1, h2⟩ | ⟨dx, vs, rfl, h1, h2, h3⟩
              · rw [h1, h2]; exact .exv0 upd_same
              · exact .exv upd_same (e2.hd _ _ h1) h2 (h3.mono e2.hd)
            obtain ⟨Hd2, e2, l2, r2⟩ := rel
            have hil : i < σ'.length := by rw [← rs1.len]; exact hij.1
            refine ⟨.ref a, by rw [List.getElem?_set_self hil], ?_⟩
            refine q _ _ _ _ (e1.trans e2) l2 ?_
            exact (((rs1.mono e2).set i (w := .d _) r2).set j (w := .d _) r2).setNone i
          · exact q.elim
        · subst hb0
          exact q σ' cls d Hd' io' H' e1 l1 rs1 hx0
  · refine PSimp (t := fun _ _ _ => False) ⟨fun _ _ _ _ _ _ h => h.elim⟩ fun D σ H ⟨Hd, io, ro, st, l, rs, q⟩ => ?_
    simp only [ex] at q
    cases ho : exs G b ro st <;> (rw [ho] at q; simp only [O.tryk, if_neg hy] at q; exact q)
end Ev
set_option Elab.async false
set_option linter.all false
set_option maxRecDepth 100000
set_option maxHeartbeats 1000000
namespace Ev
open PySem PySem.Spec PyProof.Rows L2
variable {G : Gt} {N : List Str} {S : IsX} {Wx : WX} {sc : Scope} {X : Cx}
theorem snd_expr (e : M) : SndS G N (.expr e) := by
  intro S Wx sc X x c f h
  cases x <;> try (simp [chkS] at h; done)
  rename_i v p
  simp only [chkS, Bool.and_eq_true] at h
  refine PSimp (ps_expr (sound G N e S Wx sc X v c h.1).1 (noComp_sw h.2)) fun D σ H ⟨Hd, io, ro, st, l, rs, q⟩ => ?_
  simp only [ex] at q
  exact ⟨Hd, io, ro, st, l, rs, PO.bind rs q fun v H1 Hd1 io1 w st1 e1 l1 rs1 r1 q => q σ Hd1 io1 H1 Ext.refl l1 rs1⟩
theorem snd_ret (e : M) : SndS G N (.ret e) := by
  intro S Wx sc X x c f h
  cases x <;> try (simp [chkS] at h; done)
  rename_i v p
  cases v with
  | none => simp [chkS] at h
  | some v =>
    simp only [chkS] at h
    refine PSimp (ps_ret (sound G N e S Wx sc X v c h).1) fun D σ H ⟨Hd, io, ro, st, l, rs, q⟩ => ?_
    simp only [ex] at q
    exact ⟨Hd, io, ro, st, l, rs, PO.bind rs q fun v H1 Hd1 io1 w st1 e1 l1 rs1 r1 q => q v Hd1 io1 H1 Ext.refl l1 r1⟩
theorem snd_iff (e : M) (a b : Ss) (ha : SndSs G N a) (hb : SndSs G N b) : SndS G N (.iff e a b) := by
  intro S Wx sc X x c f h
  cases x <;> try (simp [chkS] at h; done)
  simp only [chkS, Bool.and_eq_true] at h
  refine PSimp (ps_if (sound G N e S Wx sc X _ c h.1.1).2.1 (ha S Wx sc X _ c f h.1.2) (hb S Wx sc X _ c f h.2)) fun D σ H ⟨Hd, io, ro, st, l, rs, q⟩ => ?_
  simp only [ex] at q
  refine ⟨Hd, io, ro, st, l, rs, PO.tst rs q fun k H1 Hd1 io1 st1 e1 l1 rs1 q => ?_⟩
  cases k with
  | true => exact ⟨Hd1, io1, ro, st1, l1, rs1, q⟩
  | false => exact ⟨Hd1, io1, ro, st1, l1, rs1, q⟩
theorem fm_eq {ts : List Expr} {line : Nat} {f : Expr → Option Str} (ky : ∀ x, X.env.kindOf x = sc.names.lookup x) (hf : ∀ id pos, f (.Name id pos) = if X.env.kindOf id == some .local && pos.line == line then some id else none) (hn : ∀ e, (∀ id pos, e ≠ .Name id pos) → f e = none) :
    ts.filterMap f = swNames sc line ts := by
  unfold swNames
  congr 1
  funext e
  cases e <;> try (exact hn _ (fun _ _ => nofun))
  rename_i x px
  rw [hf, ky]
  by_cases z : sc.names.lookup x = some .local
  · simp [z]
  · have : (sc.names.lookup x == some NameKind.local) = false := by simpa using z
    simp [z]
theorem no_swap {tg v : Expr} (c : CtxOk G N S Wx sc X) (f : FnOf sc X) (h : noSwap sc tg v = true) : swappedStores [tg] v X.env = pure none ∧ isTupE tg = true := by
  have ky : ∀ x, X.env.kindOf x = sc.names.lookup x := fun x => by unfold Env.kindOf; rw [c.hsc]
  cases tg <;> try (cases v <;> simp [noSwap, isTupE] at h; done)
  refine ⟨?_, rfl⟩
  rename_i ts k p
  cases v <;> try rfl
  rename_i vs k2 p2
  simp only [noSwap, Bool.or_eq_true, decide_eq_true_eq] at h
  unfold swappedStores
  simp only []
  rw [fm_eq (sc := sc) (X := X) (line := (ts.head?.map (·.pos.line)).getD 0) ky (fun _ _ => rfl) (fun e he => by cases e <;> first | rfl | exact absurd rfl (he _ _))]
  split
  · rfl
  · rename_i h1
    split
    · rfl
    · split
      · rfl
      · rename_i h3
        rcases h with (h | h) | h
        · exfalso
          simp only [Bool.or_eq_true, not_or, bne_iff_ne, ne_eq, Decidable.not_not] at h1
          exact h h1.1.2.symm
        · exfalso
          simp only [Bool.or_eq_true, not_or, bne_iff_ne, ne_eq, Decidable.not_not] at h3
          exact h h3.1
        · rw [if_pos h]
theorem swapsSole {tg v : Expr} {l : Nat} {env : Env} (h : notComp v = true) : swapsWithSole [tg] v l env = pure false := noComp_sw h
theorem snd_unp (t : T) (e : M) : SndS G N (.unp t e) := by
  intro S Wx sc X x c f h
  cases x <;> try (simp [chkS] at h; done)
  rename_i ts v p
  cases ts with
  | nil => simp [chkS] at h
  | cons tg ts =>
    cases ts with
    | cons _ _ => simp [chkS] at h
    | nil =>
      simp only [chkS, Bool.and_eq_true] at h
      obtain ⟨⟨⟨h1, h2⟩, h3⟩, h4⟩ := h
      obtain ⟨n1, n2⟩ := no_swap c f h3
      refine PSimp (ps_asg (sound G N e S Wx sc X v c h2).1 (pg_ok c.hN c.nd c.calm c.hsc f.fn t tg h1) (swapsSole h4) n1 ?_) fun D σ H ⟨Hd, io, ro, st, l, rs, q⟩ => ?_
      · cases tg <;> first | rfl | (cases n2; done)
      · simp only [ex] at q
        refine ⟨Hd, io, ro, st, l, rs, PO.bind rs q fun v H1 Hd1 io1 w st1 e1 l1 rs1 r1 q => ?_⟩
        obtain ⟨d, Hd2, st2, e2, l2, r2, q, _⟩ := PO.keep l1 r1 q
        cases ha : asgT t d ro with
        | none => rw [ha] at q; exact q.elim
        | some ro1 =>
          rw [ha] at q
          exact ⟨Hd2, io1, ro, d, ro1, l2.sub, r2, rs1.mono e2, ha, fun σ' rs' _ => q σ' Hd2 io1 H1 Ext.refl l2 rs'⟩
theorem par_sw {x y : Str} {px py pt pt2 : Pos} {k k2 : Nat} {u v : Expr} (c : CtxOk G N S Wx sc X) (f : FnOf sc X) (hxy : x ≠ y) (hx : sc.names.lookup x = some .local) (hy : sc.names.lookup y = some .local) (hl : (py.line == px.line) = true) (su : noStar u = true) (sv : noStar v = true)
    (h1 : ([u, v].all (foldedForSure 8)) = false) (h2 : ([u, v].all (constantsAlone 8)) = false) : swappedStores [.Tuple [.Name x px, .Name y py] k pt] (.Tuple [u, v] k2 pt2) X.env = pure (some [x, y]) := by
  have ky : ∀ x, X.env.kindOf x = sc.names.lookup x := fun x => by unfold Env.kindOf; rw [c.hsc]
  have hb : X.env.blockKind = .function := by unfold Env.blockKind; rw [c.hsc, f.kind]; rfl
  have ns : ([u, v].any fun | .Starred .. => true | _ => false) = false := by
    cases u <;> cases v <;> first | rfl | (cases su; done) | (cases sv; done)
  have nm : swNames sc ((([.Name x px, .Name y py] : List Expr).head?.map (·.pos.line)).getD 0) [.Name x px, .Name y py] = [x, y] := by
    have hl' : py.line = px.line := by simpa using hl
    simp [swNames, hx, hy, hl', Expr.pos]
  have hd : ([x, y].eraseDups) = [x, y] := by
    have : (y == x) = false := by simpa using fun z : y = x => hxy z.symm
    rw [List.eraseDups_cons, List.filter_cons, this]
    rfl
  unfold swappedStores
  simp only []
  rw [fm_eq (sc := sc) (X := X) (line := (([.Name x px, .Name y py] : List Expr).head?.map (·.pos.line)).getD 0) ky (fun _ _ => rfl) (fun e he => by cases e <;> first | rfl | exact absurd rfl (he _ _))]
  rw [nm, hd, h1, h2, hb]
  split
  · rename_i z; simp at z
  · split
    · rename_i z
      exfalso
      have : ([u, v].any fun | .Starred .. => true | _ => false) = true := z
      rw [ns] at this; cases this
    · rfl
theorem snd_par (i j : Nat) (a b : M) : SndS G N (.par i j a b) := by
  intro S Wx sc X x c f h
  cases x <;> try (simp [chkS] at h; done)
  rename_i ts v p
  match ts, v, h with
  | [.Tuple [.Name x px, .Name y py] kt pt], .Tuple [u, v] k2 pt2, h =>
    simp only [chkS, Bool.and_eq_true, decide_eq_true_eq, Bool.not_eq_true'] at h
    obtain ⟨⟨⟨⟨⟨⟨⟨⟨⟨⟨⟨h1, h2⟩, h3⟩, h4⟩, h5⟩, h6⟩, h7⟩, h8⟩, h9⟩, h10⟩, h11⟩, h12⟩ := h
    have hxy : x ≠ y := fun z => by
      subst z
      exact h3 (nodup_ix c.nd h1 h2)
    have hN : X.N.Nodup := by rw [c.hN]; exact c.nd
    refine PSimp (ps_par c.calm hN (by rw [c.hN]; exact h1) (by rw [c.hN]; exact h2) h3 (by rw [c.hsc]; exact h4) (by rw [c.hsc]; exact h5)
      (pa_cons (sound G N a S Wx sc X u c h11).1 (pa_cons (sound G N b S Wx sc X v c h12).1 pa_nil (star_plain h8)) (star_plain h7)) (par_sw c f hxy h4 h5 h6 h7 h8 h9 h10) rfl) fun D σ H ⟨Hd, io, ro, st, l, rs, q⟩ => ?_
    simp only [ex] at q
    refine ⟨Hd, io, ro, st, l, rs, PO.bind rs q fun v H1 Hd1 io1 w st1 e1 l1 rs1 r1 q => ?_⟩
    refine ⟨Hd1, io1, ro, st1, l1, rs1, PO.bind rs1 q fun u H2 Hd2 io2 w2 st2 e2 l2 rs2 r2 q => ?_⟩
    split at q
    · exact ⟨_, _, rfl, q _ Hd2 io2 H2 Ext.refl l2 ((rs2.set i (r1.mono e2)).set j r2)⟩
    · exact q.elim
/-! ### three names stored at once -/
def tPar3 (i j k : Nat) (ta : TA) : TS := fun D σ H => ta σ H fun vs H1 => ∃ u v w, vs = [u, v, w] ∧ D.nx (((σ.set i (some u)).set j (some v)).set k (some w)) H1
theorem Vals.three {X : Cx} {u v w : V} {us : List Value} (h : Vals [u, v, w] us) : ∃ a b c, us = [a, b, c] ∧ L2.RelV u a ∧ L2.RelV v b ∧ L2.RelV w c := by
  cases h with
  | cons p h => cases h with
    | cons q h => cases h with
      | cons r h => cases h; exact ⟨_, _, _, rfl, p, q, r⟩
section
variable {X : Cx} {i j k : Nat} {x y z : Str} {a b c : Expr} {ta : TA} {px py pz pt pos : Pos} {kt k2 : Nat} {pt2 : Pos}
theorem ps_par3 (hc : X.calm = true) (hN : X.N.Nodup) (hi : X.N[i]? = some x) (hj : X.N[j]? = some y) (hk : X.N[k]? = some z) (hij : i ≠ j ∧ i ≠ k ∧ j ≠ k)
    (lx : X.env.scope.names.lookup x = some .local) (ly : X.env.scope.names.lookup y = some .local) (lz : X.env.scope.names.lookup z = some .local) (args : PA X [a, b, c] ta)
    (hw : swappedStores [.Tuple [.Name x px, .Name y py, .Name z pz] kt pt] (.Tuple [a, b, c] k2 pt2) X.env = pure (some [x, y, z]))
    (hs : swapsWithSole [.Tuple [.Name x px, .Name y py, .Name z pz] kt pt] (.Tuple [a, b, c] k2 pt2) pos.line X.env = pure false) :
    PS X (.Assign [.Tuple [.Name x px, .Name y py, .Name z pz] kt pt] (.Tuple [a, b, c] k2 pt2) pos) (tPar3 i j k ta) := by
  refine ⟨fun pins s0 sg H D I want => ?_⟩
  rw [exec_Assign_arm]; refine wpAny_bind (wpAny_standAt ?_); rw [hs]; refine wpAny_bind (wpAny_pure ?_); rw [if_neg (by decide)]
  refine wpAny_bind (Tuple_ (thn (args.run _ pins s0 sg H _ I want) fun us s1 ⟨vs, H1, J, rel, q⟩ => ?_))
  obtain ⟨u, v, w, rfl, q⟩ := q
  obtain ⟨u', v', w', rfl, r1, r2, r3⟩ := Vals.three (X := X) rel
  refine wpAny_newObj_type ?_ (show 3 ≤ sizeLine by decide)
  have J2 : L2.Inv X pins sg H1 { s1 with heap := s1.heap.push { cls := .type "tuple", data := .seq [u', v', w'].toArray } } := J.kept (t' := s1.toks) fun _ _ e => Heap.get?_push_of_some _ e
  rw [hw]; refine wpAny_bind (wpAny_pure ?_)
  show wpAny (model X.prog X.w) X.A (do rule "assign.swapped-stores"; let got ← unpackItems (.ref s1.heap.objs.size) 3 none; assignInOrder [fun v => bindName X.env z v, fun v => bindName X.env y v, fun v => bindName X.env x v] got.reverse; pure Flow.next) _ _ _
  refine wpAny_bind (wpAny_rule (wpAny_bind (unpackItems_tuple (items := #[u', v', w']) (J.ok.hd hc) (IsTup.new s1.heap _) fun h' keep => ?_)))
  have J3 := J2.kept (h' := h') (t' := s1.toks) fun n o e => keep n o (Nat.ne_of_lt (Heap.lt_size e)) e
  show wpAny _ _ (assignInOrder [fun v => bindName X.env z v, fun v => bindName X.env y v, fun v => bindName X.env x v] [w', v', u'] >>= fun _ => pure Flow.next) _ _ _
  refine wpAny_bind (assignInOrder_cons (wpAny_bindName (store_ok J3 hN hk (.inl lz) r3 (fun s2 J4 => ?_) (.inr lz))))
  refine assignInOrder_cons (wpAny_bindName (store_ok J4 hN hj (.inl ly) r2 (fun s3 J5 => ?_) (.inr ly)))
  refine assignInOrder_cons (wpAny_bindName (store_ok J5 hN hi (.inl lx) r1 (fun s4 J6 => assignInOrder_nil (wpAny_pure ?_)) (.inr lx)))
  have e : ((sg.set k (some w)).set j (some v)).set i (some u) = ((sg.set i (some u)).set j (some v)).set k (some w) := by
    rw [List.set_comm (some w) (some v) (fun z => hij.2.2 z.symm), List.set_comm (some w) (some u) (fun z => hij.2.1 z.symm), List.set_comm (some v) (some u) (fun z => hij.1 z.symm)]
  rw [e] at J6
  exact ⟨_, H1, J6, q⟩
end
theorem par3_sw {x y z : Str} {px py pz pt pt2 : Pos} {k k2 : Nat} {u v w : Expr} (c : CtxOk G N S Wx sc X) (f : FnOf sc X) (hd : x ≠ y ∧ x ≠ z ∧ y ≠ z) (hx : sc.names.lookup x = some .local) (hy : sc.names.lookup y = some .local) (hz : sc.names.lookup z = some .local) (hl : (py.line == px.line) = true) (hl2 : (pz.line == px.line) = true) (su : noStar u = true) (sv : noStar v = true) (sw : noStar w = true)
    (h1 : ([u, v, w].all (foldedForSure 8)) = false) (h2 : ([u, v, w].all (constantsAlone 8)) = false) : swappedStores [.Tuple [.Name x px, .Name y py, .Name z pz] k pt] (.Tuple [u, v, w] k2 pt2) X.env = pure (some [x, y, z]) := by
  have ky : ∀ x, X.env.kindOf x = sc.names.lookup x := fun x => by unfold Env.kindOf; rw [c.hsc]
  have hb : X.env.blockKind = .function := by unfold Env.blockKind; rw [c.hsc, f.kind]; rfl
  have st : ∀ e : Expr, noStar e = true → (match e with | .Starred .. => true | _ => false) = false := fun e h => by cases e <;> first | rfl | (cases h; done)
  have ns : ([u, v, w].any fun | .Starred .. => true | _ => false) = false := by
    rw [List.any_cons, List.any_cons, List.any_cons, List.any_nil, st u su, st v sv, st w sw]; rfl
  have nm : swNames sc ((([.Name x px, .Name y py, .Name z pz] : List Expr).head?.map (·.pos.line)).getD 0) [.Name x px, .Name y py, .Name z pz] = [x, y, z] := by
    have a1 : py.line = px.line := by simpa using hl
    have a2 : pz.line = px.line := by simpa using hl2
    simp [swNames, hx, hy, hz, a1, a2, Expr.pos]
  have dd : ([x, y, z].eraseDups) = [x, y, z] := by
    have b1 : (y == x) = false := by simpa using fun q : y = x => hd.1 q.symm
    have b2 : (z == x) = false := by simpa using fun q : z = x => hd.2.1 q.symm
    have b3 : (z == y) = false := by simpa using fun q : z = y => hd.2.2 q.symm
    rw [List.eraseDups_cons, List.filter_cons, b1, List.filter_cons, b2]
    show x :: List.eraseDups [y, z] = _
    rw [List.eraseDups_cons, List.filter_cons, b3]
    rfl
  unfold swappedStores
  simp only []
  rw [fm_eq (sc := sc) (X := X) (line := (([.Name x px, .Name y py, .Name z pz] : List Expr).head?.map (·.pos.line)).getD 0) ky (fun _ _ => rfl) (fun e he => by cases e <;> first | rfl | exact absurd rfl (he _ _))]
  rw [nm, dd, h1, h2, hb]
  split
  · rename_i q; simp at q
  · split
    · rename_i q
      exfalso
      have : ([u, v, w].any fun | .Starred .. => true | _ => false) = true := q
      rw [ns] at this; cases this
    · rfl
theorem snd_par3 (i j k : Nat) (a b d : M) : SndS G N (.par3 i j k a b d) := by
  intro S Wx sc X x c f h
  cases x <;> try (simp [chkS] at h; done)
  rename_i ts v p
  match ts, v, h with
  | [.Tuple [.Name x px, .Name y py, .Name z pz] kt pt], .Tuple [u, v, w] k2 pt2, h =>
    simp only [chkS, Bool.and_eq_true, decide_eq_true_eq, Bool.not_eq_true'] at h
    obtain ⟨⟨⟨⟨⟨⟨⟨⟨⟨⟨⟨⟨⟨⟨h1, h2⟩, h3⟩, h4⟩, h5⟩, h6⟩, h7⟩, h8⟩, h9⟩, ⟨⟨s1, s2⟩, s3⟩⟩, h11⟩, h12⟩, h13⟩, h14⟩, h15⟩ := h
    have df : x ≠ y ∧ x ≠ z ∧ y ≠ z := ⟨fun q => by subst q; exact h4.1 (nodup_ix c.nd h1 h2), fun q => by subst q; exact h4.2.1 (nodup_ix c.nd h1 h3), fun q => by subst q; exact h4.2.2 (nodup_ix c.nd h2 h3)⟩
    have hN : X.N.Nodup := by rw [c.hN]; exact c.nd
    refine PSimp (ps_par3 c.calm hN (by rw [c.hN]; exact h1) (by rw [c.hN]; exact h2) (by rw [c.hN]; exact h3) h4 (by rw [c.hsc]; exact h5) (by rw [c.hsc]; exact h6) (by rw [c.hsc]; exact h7)
      (pa_cons (sound G N a S Wx sc X u c h13).1 (pa_cons (sound G N b S Wx sc X v c h14).1 (pa_cons (sound G N d S Wx sc X w c h15).1 pa_nil (star_plain s3)) (star_plain s2)) (star_plain s1)) (par3_sw c f df h5 h6 h7 h8 h9 s1 s2 s3 h11 h12) rfl) fun D σ H ⟨Hd, io, ro, st, l, rs, q⟩ => ?_
    simp only [ex] at q
    refine ⟨Hd, io, ro, st, l, rs, PO.bind rs q fun v1 H1 Hd1 io1 w1 st1 e1 l1 rs1 r1 q => ?_⟩
    refine ⟨Hd1, io1, ro, st1, l1, rs1, PO.bind rs1 q fun v2 H2 Hd2 io2 w2 st2 e2 l2 rs2 r2 q => ?_⟩
    refine ⟨Hd2, io2, ro, st2, l2, rs2, PO.bind rs2 q fun v3 H3 Hd3 io3 w3 st3 e3 l3 rs3 r3 q => ?_⟩
    split at q
    · exact ⟨_, _, _, rfl, q _ Hd3 io3 H3 Ext.refl l3 (((rs3.set i ((r1.mono e2).mono e3)).set j (r2.mono e3)).set k r3)⟩
    · exact q.elim
theorem put_rel {K : PySem.W.Frag} {Hd : Hp} {k : Key} {v : V} {d : D} (r : RelD K Hd v d) : ∀ {vs : List (Key × V)} {kvs : List (Key × D)}, RelKV K Hd vs kvs → RelKV K Hd (putK vs k v) (putD kvs k d) := by
  intro vs kvs h
  have any_ : (vs.any fun kv => decide (kv.1 = k)) = (kvs.any fun kv => decide (kv.1 = k)) := by
    induction h with
    | nil => rfl
    | cons hv _ ih => simp [ih]
  unfold putK putD
  rw [any_]
  by_cases z : (kvs.any fun kv => decide (kv.1 = k)) = true
  · rw [if_pos z, if_pos z]
    clear z any_
    induction h with
    | nil => exact .nil
    | @cons k' v' d' vs' ds' hv _ ih =>
      rw [List.map_cons, List.map_cons]
      by_cases e : k' = k
      · rw [if_pos e, if_pos e]; exact .cons r ih
      · rw [if_neg e, if_neg e]; exact .cons hv ih
  · rw [if_neg z, if_neg z]
    clear z any_
    induction h with
    | nil => exact .cons r .nil
    | cons hv _ ih => exact .cons hv ih
theorem RelKV.length {K : PySem.W.Frag} {Hd : Hp} : ∀ {vs : List (Key × V)} {kvs : List (Key × D)}, RelKV K Hd vs kvs → vs.length = kvs.length
  | _, _, .nil => rfl
  | _, _, .cons _ r => by rw [List.length_cons, List.length_cons, RelKV.length r]
theorem size6 {n : Nat} (h : n < 1000000) : n < sizeLine := Nat.lt_of_lt_of_le h (by rw [sizeLine_eq]; decide)
theorem snd_dput (o k v : M) : SndS G N (.dput o k v) := by
  intro S Wx sc X x c f h
  cases x <;> try (simp [chkS] at h; done)
  rename_i ts xv p
  match ts, h with
  | [.Subscript xo xk px], h =>
    simp only [chkS, Bool.and_eq_true] at h
    obtain ⟨⟨⟨⟨h1, h2⟩, h3⟩, h4⟩, h5⟩ := h
    refine PSimp (ps_dput (Nat.lt_of_le_of_lt (by omega) c.room) (sound G N o S Wx sc X _ c h1).1 (sound G N k S Wx sc X _ c h2).1 (sound G N v S Wx sc X _ c h3).1 (noComp_sw h4)) fun D σ H ⟨Hd, io, ro, st, l, rs, q⟩ => ?_
    simp only [ex] at q
    refine ⟨Hd, io, ro, st, l, rs, PO.bind rs q fun v H1 Hd1 io1 w st1 e1 l1 rs1 r1 q => ?_⟩
    refine ⟨Hd1, io1, ro, st1, l1, rs1, PO.bind rs1 q fun a H2 Hd2 io2 w2 st2 e2 l2 rs2 r2 q => ?_⟩
    refine ⟨Hd2, io2, ro, st2, l2, rs2, PO.bind rs2 q fun b H3 Hd3 io3 w3 st3 e3 l3 rs3 r3 q => ?_⟩
    obtain ⟨d, Hd4, st4, e4, l4, r4, q, _⟩ := PO.keep l3 ((r1.mono e2).mono e3) q
    have rs4 := rs3.mono e4
    cases w2 with
    | d _ => exact q.elim
    | cell n =>
      cases w3 with
      | cell _ => exact q.elim
      | d kd =>
        dsimp only at q
        cases h6 : st4[n]? with
        | none => rw [h6] at q; exact q.elim
        | some cc =>
          rw [h6] at q
          cases cc with
          | lst _ => exact q.elim
          | frz _ => exact q.elim
          | obj _ _ => exact q.elim
          | dic kvs =>
            cases h7 : keyOf kd with
            | none => rw [h7] at q; exact q.elim
            | some key =>
              rw [h7] at q
              dsimp only at q
              split at q
              · rename_i hz
                obtain ⟨pa, rfl, hp⟩ := r2.mono e3
                obtain ⟨hd, vs, hv, hr⟩ := l4.cel n pa _ hp h6
                have ky : b = kV key := keyOf_kV h7 r3
                obtain ⟨l5, e5⟩ := l4.write (o := .dK (putK vs key v)) (c := .dic (putD kvs key d)) hp ⟨hd, _, upd_same, put_rel r4 hr⟩ hd
                refine ⟨pa, _, rfl, .inl ⟨vs, key, hv, ky, by rw [hr.length]; exact size6 hz, rfl⟩, ?_⟩
                exact q σ Hd4 io3 _ e5 l5 (rs4.mono e5)
              · exact q.elim
theorem snd_app (o e : M) : SndS G N (.app o e) := by
  intro S Wx sc X x c f h
  cases x <;> try (simp [chkS] at h; done)
  rename_i xe p
  match xe, h with
  | .Call (.Attribute xo nm ap) [xa] [] cp, h =>
    simp only [chkS, Bool.and_eq_true, decide_eq_true_eq] at h
    obtain ⟨⟨⟨⟨⟨rfl, h1⟩, h2⟩, h3⟩, h4⟩, h5⟩ := h
    have s1 : starEach [xa] X.env = (false, eval xa X.env) :: starEach [] X.env := star_plain h3
    refine PSimp (ps_expr (pe_bm (T := "list") PySem.F.plainAttrs_list PySem.F.slot_list_append PySem.F.type_list_append mt_append (sound G N o S Wx sc X _ c h4).1 (pa_cons (sound G N e S Wx sc X _ c h5).1 pa_nil s1) (base_of h2)
      (by rw [starAll (by simp [noStars, h3])]; rfl) h1 s1 rfl) rfl) fun D σ H ⟨Hd, io, ro, st, l, rs, q⟩ => ?_
    simp only [ex] at q
    refine ⟨Hd, io, ro, st, l, rs, PO.bind rs q fun a H1 Hd1 io1 w st1 e1 l1 rs1 r1 q => ?_⟩
    split at q
    · rename_i hL
      have ty : ∃ n pa vs, w = .cell n ∧ a = .ref pa ∧ io1[n]? = some pa ∧ SqL X.K H1 pa vs := by
        unfold isLst at hL
        split at hL
        · rename_i n
          split at hL
          · rename_i ds hs
            obtain ⟨pa, rfl, hp⟩ := r1
            obtain ⟨_, vs, hv, _⟩ := l1.cel n pa _ hp hs
            exact ⟨n, pa, vs, rfl, rfl, hp, lq hv⟩
          · cases hL
        · cases hL
      obtain ⟨n, pa, vs, rfl, rfl, hp, hv⟩ := ty
      refine ⟨.inl ⟨rfl, vs, hv⟩, Hd1, io1, ro, st1, l1, rs1, PO.bind rs1 q fun b H2 Hd2 io2 w2 st2 e2 l2 rs2 r2 q => ?_⟩
      obtain ⟨d, Hd3, st3, e3, l3, r3, q, _⟩ := PO.keep l2 r2 q
      unfold appC at q
      dsimp only at q
      split at q
      · rename_i ds hs
        split at q
        · rename_i hz
          obtain ⟨pa', e', hp'⟩ := (show RelW X.K Hd1 io1 (.cell n) (.ref pa) from ⟨pa, rfl, hp⟩).mono (e2.trans e3)
          cases e'
          obtain ⟨hd, us, hu, hr⟩ := l3.cel n pa _ hp' hs
          obtain ⟨l4, e4⟩ := l3.write (o := .lst (us ++ [b])) (c := .lst (ds ++ [d])) hp' ⟨hd, _, upd_same, hr.append (.cons r3 .nil)⟩ hd
          exact ⟨pa, us, b, rfl, rfl, hu, by rw [hr.length]; exact size6 hz, q σ Hd3 io2 _ e4 l4 ((rs2.mono e3).mono e4)⟩
        · exact q.elim
      · exact q.elim
    · exact q.elim
theorem snd_ext (o e : M) : SndS G N (.ext o e) := by
  intro S Wx sc X x c f h
  cases x <;> try (simp [chkS] at h; done)
  rename_i xe p
  match xe, h with
  | .Call (.Attribute xo nm ap) [xa] [] cp, h =>
    simp only [chkS, Bool.and_eq_true, decide_eq_true_eq] at h
    obtain ⟨⟨⟨⟨⟨rfl, h1⟩, h2⟩, h3⟩, h4⟩, h5⟩ := h
    have s1 : starEach [xa] X.env = (false, eval xa X.env) :: starEach [] X.env := star_plain h3
    refine PSimp (ps_expr (pe_bm (T := "list") PySem.F.plainAttrs_list PySem.F.slot_list_extend PySem.F.type_list_extend mt_extD (sound G N o S Wx sc X _ c h4).1 (pa_cons (sound G N e S Wx sc X _ c h5).1 pa_nil s1) (base_of h2)
      (by rw [starAll (by simp [noStars, h3])]; rfl) h1 s1 rfl) rfl) fun D σ H ⟨Hd, io, ro, st, l, rs, q⟩ => ?_
    simp only [ex] at q
    refine ⟨Hd, io, ro, st, l, rs, PO.bind rs q fun a H1 Hd1 io1 w st1 e1 l1 rs1 r1 q => ?_⟩
    split at q
    · rename_i hL
      have ty : ∃ n pa vs, w = .cell n ∧ a = .ref pa ∧ io1[n]? = some pa ∧ SqL X.K H1 pa vs := by
        unfold isLst at hL
        split at hL
        · rename_i n
          split at hL
          · rename_i ds hs
            obtain ⟨pa, rfl, hp⟩ := r1
            obtain ⟨_, vs, hv, _⟩ := l1.cel n pa _ hp hs
            exact ⟨n, pa, vs, rfl, rfl, hp, lq hv⟩
          · cases hL
        · cases hL
      obtain ⟨n, pa, vs, rfl, rfl, hp, hv⟩ := ty
      refine ⟨.inl ⟨rfl, vs, hv⟩, Hd1, io1, ro, st1, l1, rs1, PO.bind rs1 q fun b H2 Hd2 io2 w2 st2 e2 l2 rs2 r2 q => ?_⟩
      obtain ⟨d, Hd3, st3, e3, l3, r3, q, _⟩ := PO.keep l2 r2 q
      have sq : ∃ es b' zs, seqOf d = some es ∧ b = .ref b' ∧ (SqT X.K H2 b' zs ∨ SqL X.K H2 b' zs) ∧ RelDs X.K Hd3 zs es := by
        have r3' := r3
        match d, q, r3' with
        | .lst es, q, .lst a1 a2 => exact ⟨es, _, _, rfl, rfl, .inr (lq (l3.sub _ _ a1)), a2⟩
        | .tup es, q, .tup a1 a2 => exact ⟨es, _, _, rfl, rfl, .inl (l3.sub.sqt a1), a2⟩
      obtain ⟨es, b', zs, hes, rfl, hq, hzr⟩ := sq
      rw [hes] at q
      dsimp only at q
      unfold extC at q
      dsimp only at q
      split at q
      · rename_i ds hs
        split at q
        · rename_i hz
          obtain ⟨pa', e', hp'⟩ := (show RelW X.K Hd1 io1 (.cell n) (.ref pa) from ⟨pa, rfl, hp⟩).mono (e2.trans e3)
          cases e'
          obtain ⟨hd, us, hu, hr⟩ := l3.cel n pa _ hp' hs
          obtain ⟨l4, e4⟩ := l3.write (o := .lst (us ++ zs)) (c := .lst (ds ++ es)) hp' ⟨hd, _, upd_same, hr.append hzr⟩ hd
          exact ⟨pa, b', us, zs, rfl, rfl, hu, hq, by have := hr.length; have := hzr.length; have := sizeLine_eq; omega, q σ Hd3 io2 _ e4 l4 ((rs2.mono e3).mono e4)⟩
        · exact q.elim
      · exact q.elim
    · exact q.elim
theorem RelFs.put {K : PySem.W.Frag} {Hd : Hp} {io : List Addr} {f : Str} {v : V} {w : Ev.W} (r : RelW K Hd io w v) : ∀ {vs : List (Str × V)} {ws : List (Str × Ev.W)}, RelFs K Hd io vs ws → RelFs K Hd io (L2.putF f v vs) (putFW f w ws)
  | _, _, .nil => .cons r .nil
  | _, _, .cons (f := g) h k => by
    simp only [L2.putF, putFW]
    by_cases z : g = f
    · rw [if_pos z, if_pos z]; exact .cons r k
    · rw [if_neg z, if_neg z]; exact .cons h (RelFs.put r k)
theorem RelFs.length {K : PySem.W.Frag} {Hd : Hp} {io : List Addr} : ∀ {vs : List (Str × V)} {ws : List (Str × Ev.W)}, RelFs K Hd io vs ws → vs.length = ws.length
  | _, _, .nil => rfl
  | _, _, .cons _ k => by simp [RelFs.length k]
theorem snd_fset (o : M) (f : Str) (v : M) : SndS G N (.fset o f v) := by
  intro S Wx sc X x c fo h
  cases x <;> try (simp [chkS] at h; done)
  rename_i ts xv p
  match ts, h with
  | [.Attribute xo nm px], h =>
    simp only [chkS, Bool.and_eq_true, decide_eq_true_eq] at h
    obtain ⟨⟨⟨rfl, h1⟩, h2⟩, h3⟩ := h
    refine PSimp (L2.ps_fld (sound G N o S Wx sc X _ c h1).1 (sound G N v S Wx sc X _ c h2).1 (noComp_sw h3)) fun D σ H ⟨Hd, io, ro, st, l, rs, q⟩ => ?_
    simp only [ex] at q
    refine ⟨Hd, io, ro, st, l, rs, PO.bind rs q fun y H1 Hd1 io1 w st1 e1 l1 rs1 r1 q => ?_⟩
    refine ⟨Hd1, io1, ro, st1, l1, rs1, PO.bind rs1 q fun a H2 Hd2 io2 w2 st2 e2 l2 rs2 r2 q => ?_⟩
    unfold fsetC at q
    split at q
    · rename_i n
      split at q
      · rename_i cc fs hs
        split at q
        · rename_i hz
          obtain ⟨C, hno⟩ := c.cfl _ _ hz.1
          obtain ⟨pa, rfl, hp⟩ := r2
          obtain ⟨hd, dx, vs, hins, how, hdx, hni, rfs⟩ := l2.cel n pa _ hp hs
          have ne : dx ≠ pa := fun z => hni (by rw [z]; exact List.mem_of_getElem? hp)
          obtain ⟨l3, e3⟩ := l2.write (o := .ins (He.ga X.K cc) dx (L2.putF nm y vs)) (c := .obj cc (putFW nm w fs)) hp ⟨hd, dx, _, upd_same, by rw [upd_ne ne]; exact how, hdx, hni, rfs.put (r1.mono e2)⟩ hd
          exact ⟨pa, _, dx, vs, rfl, hins, C, hno, by rw [rfs.length]; exact hz.2, q σ Hd2 io2 _ e3 l3 (rs2.mono e3)⟩
        · exact q.elim
      · exact q.elim
    · exact q.elim
/-! ### loops -/
theorem PO.turn {K : PySem.W.Frag} {Hd : Hp} {io : List Addr} {H : Hp} {D : Ends} {o : O} {g : Ro → Store → O} {Nx : L2.St → Hp → Prop} (h : PO K S Wx Hd io H D (o.turn g))
    (k : ∀ ro st σ Hd1 io1 H1, Ext Hd io H Hd1 io1 H1 → Rl K Hd1 io1 st H1 → RelS K Hd1 io1 ro σ → PO K S Wx Hd1 io1 H1 D (g ro st) → Nx σ H1) : PO K S Wx Hd io H { D with nx := Nx, ct := Nx, bk := D.nx } o := by
  cases o with
  | bad => exact h
  | nx ro st => exact fun σ a b c e l rs => k ro st σ a b c e l rs (PO.ext e h)
  | cnt ro st => exact fun σ a b c e l rs => k ro st σ a b c e l rs (PO.ext e h)
  | brk ro st => exact h
  | ret w st => exact h
  | exc x ro st => exact h
theorem snd_whl (n : Nat) (e : M) (b : Ss) (hb : SndSs G N b) : SndS G N (.whl n e b) := by
  intro S Wx sc X x c f h
  cases x <;> try (simp [chkS] at h; done)
  rename_i xe body orelse p
  cases orelse with
  | cons _ _ => simp [chkS] at h
  | nil =>
    simp only [chkS, Bool.and_eq_true] at h
    refine PSimp (ps_while f.pass (sound G N e S Wx sc X _ c h.1).2.1 (hb S Wx sc X _ c f h.2)) fun D σ H ⟨Hd, io, ro, st, l, rs, q⟩ => ?_
    simp only [ex] at q
    refine ⟨fun m σ H => ∃ Hd io ro st, Rl X.K Hd io st H ∧ RelS X.K Hd io ro σ ∧ PO X.K S Wx Hd io H D (whlRun (ev G e) (exs G b) m ro st), ⟨n, Hd, io, ro, st, l, rs, q⟩, fun m σ H ⟨Hd, io, ro, st, l, rs, q⟩ => ?_⟩
    cases m with
    | zero => exact q.elim
    | succ m =>
      simp only [whlRun] at q
      refine ⟨Hd, io, ro, st, l, rs, PO.tst rs q fun k H1 Hd1 io1 st1 e1 l1 rs1 q => ?_⟩
      cases k with
      | false => exact q σ Hd1 io1 H1 Ext.refl l1 rs1
      | true =>
        simp only [if_true] at q ⊢
        refine ⟨fun σ H => ∃ Hd io ro st, Rl X.K Hd io st H ∧ RelS X.K Hd io ro σ ∧ PO X.K S Wx Hd io H D (whlRun (ev G e) (exs G b) m ro st), fun σ' H' w => ⟨m, by omega, w⟩, Hd1, io1, ro, st1, l1, rs1, ?_⟩
        exact PO.turn q fun ro2 st2 σ2 Hd2 io2 H2 e2 l2 rs2 q2 => ⟨Hd2, io2, ro2, st2, l2, rs2, q2⟩
theorem snd_for (t : T) (it : I) (b : Ss) (hb : SndSs G N b) : SndS G N (.for_ t it b) := by
  intro S Wx sc X x c f h
  cases x <;> try (simp [chkS] at h; done)
  rename_i tg iter body orelse p
  cases orelse with
  | cons _ _ => simp [chkS] at h
  | nil =>
    simp only [chkS, Bool.and_eq_true] at h
    obtain ⟨⟨⟨⟨h1, h2⟩, h3⟩, h4⟩, h5⟩ := h
    refine PSimp (ps_for f.pass c.calm (soundI G N it S Wx sc X iter tg c h3 (fun z => by
      rw [z] at h2
      simpa using h2)) (pg_ok c.hN c.nd c.calm c.hsc f.fn t tg h1) (hb S Wx sc X _ c f h5) (fun x => by
        cases iter <;> first | rfl | (cases h4; done))) fun D σ H ⟨Hd, io, ro, st, l, rs, q⟩ => ?_
    simp only [ex] at q
    refine ⟨Hd, io, ro, st, l, rs, PO.bind (Rel := RelJ X.K) rs q fun J H0 Hd0 io0 ds st0 e0 l0 rs0 y q => ?_⟩
    refine ⟨fun i m σ H => m + i = ds.length ∧ ∃ Hd io ro st, Le Hd0 Hd ∧ Rl X.K Hd io st H ∧ RelS X.K Hd io ro σ ∧ PO X.K S Wx Hd io H D (forRun (exs G b) t (ds.drop i) ro st), ⟨ds.length, by omega, Hd0, io0, ro, st0, Le.refl _, l0, rs0, by simpa using q⟩, fun i m σ1 H1 ⟨hm, Hd1, io1, ro1, st1, le1, l1, rs1, q⟩ => ?_⟩
    by_cases hi : i < ds.length
    · right
      have le01 : Le Hd0 H1 := le1.trans l1.sub
      refine ⟨y.go i H1 le01 hi, fun σ' H' => (m - 1) + (i + 1) = ds.length ∧ ∃ Hd io ro st, Le Hd0 Hd ∧ Rl X.K Hd io st H' ∧ RelS X.K Hd io ro σ' ∧ PO X.K S Wx Hd io H' D (forRun (exs G b) t (ds.drop (i + 1)) ro st), fun σ' H' w => ⟨m - 1, by omega, w⟩, fun x H' yy => ?_⟩
      obtain ⟨d, hd, hx⟩ := y.yld i H1 x H' le01 hi yy
      have drop_ : ds.drop i = d :: ds.drop (i + 1) := by
        rw [List.drop_eq_getElem_cons hi]
        rw [List.getElem?_eq_getElem hi] at hd
        cases hd
        rfl
      rw [drop_] at q
      simp only [forRun] at q
      cases ha : asgT t d ro1 with
      | none => rw [ha] at q; exact q.elim
      | some ro2 =>
        rw [ha] at q
        dsimp only at q
        have got : ∃ Hd2, Ext Hd1 io1 H1 Hd2 io1 H' ∧ Rl X.K Hd2 io1 st1 H' ∧ RelD X.K Hd2 x d := by
          rcases hx with ⟨rfl, hx⟩ | ⟨T, vs, es, rfl, hT, rfl, rfl, hr⟩
          · exact ⟨Hd1, Ext.refl, l1, RelD.mono le1 hx⟩
          · obtain ⟨l2, e2⟩ := l1.newD hT (.tup vs)
            exact ⟨_, e2, l2, relD_newTup (l1.fresh hT) (hr.mono le1)⟩
        obtain ⟨Hd2, e2, l2, rx⟩ := got
        refine ⟨Hd2, io1, ro1, d, ro2, l2.sub, rx, rs1.mono e2, ha, fun σ3 rs3 _ => ?_⟩
        refine ⟨Hd2, io1, ro2, st1, l2, rs3, PO.turn (PO.ext e2 q) fun ro4 st4 σ4 Hd4 io4 H4 e4 l4 rs4 q4 => ?_⟩
        exact ⟨by omega, Hd4, io4, ro4, st4, (le1.trans e2.hd).trans e4.hd, l4, rs4, q4⟩
    · left
      have hi' : ds.length ≤ i := by omega
      refine ⟨y.stop i H1 (le1.trans l1.sub) hi', ?_⟩
      rw [List.drop_eq_nil_of_le hi'] at q
      simp only [forRun] at q
      exact q σ1 Hd1 io1 H1 Ext.refl l1 rs1
theorem soundS (G : Gt) (N : List Str) (b : Ss) : SndSs G N b :=
  Ss.rec (motive_1 := SndS G N) (motive_2 := SndSs G N) snd_pass snd_brk snd_cnt snd_retN snd_set snd_unp snd_par snd_par3 snd_dput snd_app snd_expr snd_ret
    (fun o e => snd_ext o e) (fun o f e => snd_fset o f e) (fun y es => snd_raise y es) (fun b y i j h => snd_tryk b y i j h)
    (fun c a b h1 h2 => snd_iff c a b h1 h2) (fun t it b h => snd_for t it b h) (fun n c b h => snd_whl n c b h) snds_nil (fun s r h1 h2 => snds_cons h1 h2) b
end Ev
set_option Elab.async false
set_option linter.all false
set_option maxRecDepth 100000
set_option maxHeartbeats 1000000
namespace Ev
open PySem PySem.Spec PyProof.Rows L2
/-! ### defs -/
def ini (n : Nat) (ws : List W) : Ro := ws.map some ++ List.replicate (n - ws.length) none
def outP : O → Option (Except Xv D)
  | .ret w st => (match keepD st w with
    | .ok d _ => some (.ok d)
    | _ => none)
  | .nx _ _ => some (.ok .non)
  | .exc x _ _ => some (.error x)
  | _ => none
def outS : O → R W
  | .ret w st => .ok w st
  | .nx _ st => .ok (.d .non) st
  | .exc x _ st => .exc x st
  | _ => .bad
def runP (G : Gt) (sl n : Nat) (b : Ss) (ds : List D) : Option (Except Xv D) := if ds.length = n then outP (exs G b (ini sl (ds.map W.d)) []) else none
def runS (G : Gt) (sl n : Nat) (b : Ss) (ws : List W) (st : Store) : R W := if ws.length = n then outS (exs G b (ini sl ws) st) else .bad
structure Glob (G : Gt) (S : IsX) (P : Program) (w : World) (K : PySem.W.Frag) (mg : Str → Option Value) (base : Heap) (k : Nat) : Prop where
  two : 2 ≤ k
  hS : S = isXv K
  ini : ∀ c F, G.ini c = some F → ∃ n, (∀ ws st, F ws st ≠ .bad → ws.length = n) ∧ ∃ f fd ps, ps.length = n ∧ L2.Mk K (He.ga K c) f ∧ FnG P w K mg base (k - 1) f fd ps (spS S K n F) ∧ mg c = some (.ref (He.ga K c)) ∧ L2.Binds K fd ps []
  meth : ∀ c m F, G.meth c m = some F → ∃ n, (∀ ws st, F ws st ≠ .bad → ws.length = n) ∧ ∃ f fd ps, ps.length = n ∧ L2.Cls K (He.ga K c) ∧ L2.Meth K (He.ga K c) m f ∧ FnG P w K mg base k f fd ps (spS S K n F) ∧ L2.Binds K fd ps []
  cfl : ∀ c f, G.cfl c f = true → L2.Cls K (He.ga K c) ∧ L2.NoAttr K (He.ga K c) f
  tix : ∀ x ys, G.tix x = some ys → TixOk K mg x ys
  mke : ∀ x i, G.mke x = some i → MkOk P w K mg base x i
  sub : ∀ x y b, G.sub x y = some b → SubOk K mg x y b
  exm : ∀ x y b, G.exm x y = some b → ExmOk K mg x y b
  fld : ∀ x f, G.fld x f = true → FldOk K x f
  con : ∀ x d, G.con x = some d → ∃ v u, mg x = some u ∧ L2.RelV v u ∧ ∀ Hd, RelD K Hd v d
  blt : ∀ x ∈ blts, mg x = none
  fp : ∀ x F, G.fp x = some F → ∃ n, (∀ ds y, F ds = some y → ds.length = n) ∧ ∃ fa fd ps, ps.length = n ∧ FnG P w K mg base k fa fd ps (spP S K n F) ∧ mg x = some (.ref fa) ∧ PySem.W.keepIn K (.ref fa) = true ∧ L2.Binds K fd ps []
  fs : ∀ x F, G.fs x = some F → ∃ n, (∀ ds st, F ds st ≠ .bad → ds.length = n) ∧ ∃ fa fd ps, ps.length = n ∧ FnG P w K mg base k fa fd ps (spS S K n F) ∧ mg x = some (.ref fa) ∧ PySem.W.keepIn K (.ref fa) = true ∧ L2.Binds K fd ps []
def Gt.addP (G : Gt) (x : Str) (F : List D → Option (Except Xv D)) : Gt := { G with fp := fun y => if y = x then some F else G.fp y }
def Gt.addI (G : Gt) (x : Str) (F : List W → Store → R W) : Gt := { G with ini := fun y => if y = x then some F else G.ini y }
def Gt.addM (G : Gt) (c m : Str) (F : List W → Store → R W) : Gt := { G with meth := fun y z => if y = c ∧ z = m then some F else G.meth y z }
def Gt.addS (G : Gt) (x : Str) (F : List W → Store → R W) : Gt := { G with fs := fun y => if y = x then some F else G.fs y }
section
variable {G : Gt} {S : IsX} {P : Program} {w : World} {K : PySem.W.Frag} {mg : Str → Option Value} {base : Heap} {k : Nat}
theorem Glob.up (g : Glob G S P w K mg base k) : Glob G S P w K mg base (k + 1) where
  two := Nat.le_succ_of_le g.two
  hS := g.hS
  ini c F h := let ⟨n, h1, f, fd, ps, h2, h3, h4, h5⟩ := g.ini c F h; ⟨n, h1, f, fd, ps, h2, h3, h4.mono (by omega), h5⟩
  meth c m F h := let ⟨n, h1, f, fd, ps, h2, h3, h4, h5, h6⟩ := g.meth c m F h; ⟨n, h1, f, fd, ps, h2, h3, h4, h5.mono (Nat.le_succ k), h6⟩
  cfl := g.cfl
  tix := g.tix
  mke := g.mke
  sub := g.sub
  exm := g.exm
  fld := g.fld
  con := g.con
  blt := g.blt
  fp x F h := let ⟨n, h1, fa, fd, ps, h2, h3, h4⟩ := g.fp x F h; ⟨n, h1, fa, fd, ps, h2, h3.mono (Nat.le_succ k), h4⟩
  fs x F h := let ⟨n, h1, fa, fd, ps, h2, h3, h4⟩ := g.fs x F h; ⟨n, h1, fa, fd, ps, h2, h3.mono (Nat.le_succ k), h4⟩
theorem Glob.addP (g : Glob G S P w K mg base k) {x : Str} {fa : Addr} {fd : FuncData} {ps : List Str} {F : List D → Option (Except Xv D)} (hn : ∀ ds y, F ds = some y → ds.length = ps.length) (h : FnG P w K mg base (k + 1) fa fd ps (spP S K ps.length F))
    (hm : mg x = some (.ref fa)) (hk : PySem.W.keepIn K (.ref fa) = true) (hb : L2.Binds K fd ps []) : Glob (G.addP x F) S P w K mg base (k + 1) where
  two := Nat.le_succ_of_le g.two
  hS := g.hS
  ini := g.up.ini
  meth := g.up.meth
  cfl := g.cfl
  tix := g.tix
  mke := g.mke
  sub := g.sub
  exm := g.exm
  fld := g.fld
  con := g.con
  blt := g.blt
  fs := g.up.fs
  fp y F' e := by
    by_cases z : y = x
    · have e : (if y = x then some F else G.fp y) = some F' := e
      rw [if_pos z] at e
      cases e
      exact ⟨ps.length, hn, fa, fd, ps, rfl, h, by rw [z]; exact hm, hk, hb⟩
    · have e : (if y = x then some F else G.fp y) = some F' := e
      rw [if_neg z] at e
      exact g.up.fp y F' e
theorem Glob.addS (g : Glob G S P w K mg base k) {x : Str} {fa : Addr} {fd : FuncData} {ps : List Str} {F : List W → Store → R W} (hn : ∀ ds st, F ds st ≠ .bad → ds.length = ps.length) (h : FnG P w K mg base (k + 1) fa fd ps (spS S K ps.length F))
    (hm : mg x = some (.ref fa)) (hk : PySem.W.keepIn K (.ref fa) = true) (hb : L2.Binds K fd ps []) : Glob (G.addS x F) S P w K mg base (k + 1) where
  two := Nat.le_succ_of_le g.two
  hS := g.hS
  ini := g.up.ini
  meth := g.up.meth
  cfl := g.cfl
  tix := g.tix
  mke := g.mke
  sub := g.sub
  exm := g.exm
  fld := g.fld
  con := g.con
  blt := g.blt
  fp := g.up.fp
  fs y F' e := by
    by_cases z : y = x
    · have e : (if y = x then some F else G.fs y) = some F' := e
      rw [if_pos z] at e
      cases e
      exact ⟨ps.length, hn, fa, fd, ps, rfl, h, by rw [z]; exact hm, hk, hb⟩
    · have e : (if y = x then some F else G.fs y) = some F' := e
      rw [if_neg z] at e
      exact g.up.fs y F' e
theorem Glob.addI (g : Glob G S P w K mg base k) {x : Str} {fa : Addr} {fd : FuncData} {ps : List Str} {F : List W → Store → R W} (hn : ∀ ds st, F ds st ≠ .bad → ds.length = ps.length) (h : FnG P w K mg base (k + 1) fa fd ps (spS S K ps.length F))
    (hM : L2.Mk K (He.ga K x) fa) (hm : mg x = some (.ref (He.ga K x))) (hb : L2.Binds K fd ps []) : Glob (G.addI x F) S P w K mg base (k + 1 + 1) where
  two := Nat.le_succ_of_le (Nat.le_succ_of_le g.two)
  hS := g.hS
  ini y F' e := by
    have e : (if y = x then some F else G.ini y) = some F' := e
    by_cases z : y = x
    · rw [if_pos z] at e
      cases e
      subst z
      exact ⟨ps.length, hn, fa, fd, ps, rfl, hM, h, hm, hb⟩
    · rw [if_neg z] at e
      exact g.up.up.ini y F' e
  meth := g.up.up.meth
  cfl := g.cfl
  tix := g.tix
  mke := g.mke
  sub := g.sub
  exm := g.exm
  fld := g.fld
  con := g.con
  blt := g.blt
  fp := g.up.up.fp
  fs := g.up.up.fs
theorem Glob.addM (g : Glob G S P w K mg base k) {c m : Str} {fa : Addr} {fd : FuncData} {ps : List Str} {F : List W → Store → R W} (hn : ∀ ds st, F ds st ≠ .bad → ds.length = ps.length) (h : FnG P w K mg base (k + 1) fa fd ps (spS S K ps.length F))
    (hC : L2.Cls K (He.ga K c)) (hM : L2.Meth K (He.ga K c) m fa) (hb : L2.Binds K fd ps []) : Glob (G.addM c m F) S P w K mg base (k + 1) where
  two := Nat.le_succ_of_le g.two
  hS := g.hS
  ini := g.up.ini
  meth y z F' e := by
    have e : (if y = c ∧ z = m then some F else G.meth y z) = some F' := e
    by_cases q : y = c ∧ z = m
    · rw [if_pos q] at e
      cases e
      obtain ⟨rfl, rfl⟩ := q
      exact ⟨ps.length, hn, fa, fd, ps, rfl, hC, hM, h, hb⟩
    · rw [if_neg q] at e
      exact g.up.meth y z F' e
  cfl := g.cfl
  tix := g.tix
  mke := g.mke
  sub := g.sub
  exm := g.exm
  fld := g.fld
  con := g.con
  blt := g.blt
  fp := g.up.fp
  fs := g.up.fs
theorem runP_len {sl n : Nat} {b : Ss} {ds : List D} {y : Except Xv D} (h : runP G sl n b ds = some y) : ds.length = n := by
  unfold runP at h
  split at h
  · assumption
  · cases h
theorem runS_len {sl n : Nat} {b : Ss} {ds : List W} {st : Store} (h : runS G sl n b ds st ≠ .bad) : ds.length = n := by
  unfold runS at h
  split at h
  · assumption
  · exact absurd rfl h
theorem RelWs.get {Hd : Hp} {io : List Addr} : ∀ {ws : List W} {vs : List V} {i : Nat} {x : W}, RelWs K Hd io ws vs → ws[i]? = some x → ∃ v, vs[i]? = some v ∧ RelW K Hd io x v
  | _, _, i, x, .nil, h => by simp at h
  | _, _, 0, x, .cons h r, e => by simp at e; subst e; exact ⟨_, rfl, h⟩
  | _, _, i + 1, x, .cons h r, e => by
    obtain ⟨v, h1, h2⟩ := RelWs.get r (i := i) (x := x) (by simpa using e)
    exact ⟨v, by simpa using h1, h2⟩
theorem relS_start {Hd : Hp} {io : List Addr} {N : List Str} {ws : List W} {vs : List V} (r : RelWs K Hd io ws vs) : RelS K Hd io (ini N.length ws) (L2.start N vs) := by
  have hl := r.length
  refine ⟨by simp [ini, L2.start, hl], fun i x h => ?_⟩
  unfold ini at h
  unfold L2.start
  by_cases hi : i < ws.length
  · rw [List.getElem?_append_left (by simpa using hi), List.getElem?_map] at h
    rw [List.getElem?_append_left (by simpa [hl] using hi), List.getElem?_map]
    cases q : ws[i]? with
    | none => rw [q] at h; cases h
    | some y =>
      rw [q] at h
      cases h
      obtain ⟨v, h1, h2⟩ := r.get q
      exact ⟨v, by rw [h1]; rfl, h2⟩
  · rw [List.getElem?_append_right (by simpa using hi), List.getElem?_replicate] at h
    split at h <;> cases h
theorem RelDs.ws {Hd : Hp} {io : List Addr} : ∀ {vs : List V} {ds : List D}, RelDs K Hd vs ds → RelWs K Hd io (ds.map W.d) vs
  | _, _, .nil => .nil
  | _, _, .cons h r => .cons h (RelDs.ws r)
theorem Ext.forget {Hd H Hd' H' : Hp} {io' : List Addr} (e : Ext Hd [] H Hd' io' H') : Ext Hd [] H Hd' [] H' :=
  ⟨e.hd, e.new, ⟨[], by simp, by simp⟩, e.fr, e.liv⟩
theorem ctx_of {CXl : True} {N : List Str} {qual : Str} {scope : Scope} {f : Addr} {cdv : Value} {Ar : Around} {fr : List Env} {sh : Shared} {Ha : Hp} {E : XK} (g : Glob G S P w K mg base k) (nd : N.Nodup) (hr : Room k (Ar.deeper (envOfC qual scope sh.heap.objs.size f cdv))) (hgd : Ar.guards = some []) :
    CtxOk G N S (fun cls d _ H => E cls d H) scope (cxOf (L2.CX P w) P w K mg base N qual scope f cdv Ar fr sh Ha E) where
  hN := rfl
  nd := nd
  hsc := rfl
  calm := rfl
  tk := L2.takes_of rfl rfl rfl rfl
  gd := hgd
  room := by have := hr.un; show (Ar.deeper (envOfC qual scope sh.heap.objs.size f cdv)).units + 65 < cLine; omega
  rm := hr.mono g.two
  hS := g.hS
  ini c F h := let ⟨n, h1, f, fd, ps, h2, h3, h4, h5⟩ := g.ini c F h; ⟨n, h1, k - 1, f, fd, ps, h2, h3, h4, by have := g.two; rw [show k - 1 + 1 = k by omega]; exact hr, h5⟩
  meth c m F h := let ⟨n, h1, f, fd, ps, h2, h3, h4, h5, h6⟩ := g.meth c m F h; ⟨n, h1, k, f, fd, ps, h2, h3, h4, h5, hr, h6⟩
  cfl := g.cfl
  tix := g.tix
  mke := g.mke
  sub := g.sub
  exm := g.exm
  fld := g.fld
  con := g.con
  blt := g.blt
  fp x F h := let ⟨n, h1, fa, fd, ps, h2, h3, h4⟩ := g.fp x F h; ⟨n, h1, k, fa, fd, ps, h2, h3, hr, h4⟩
  fs x F h := let ⟨n, h1, fa, fd, ps, h2, h3, h4⟩ := g.fs x F h; ⟨n, h1, k, fa, fd, ps, h2, h3, hr, h4⟩
theorem fnOf_of {N : List Str} {qual : Str} {scope : Scope} {f : Addr} {cdv : Value} {Ar : Around} {fr : List Env} {sh : Shared} {Ha : Hp} {E : XK} (hk : scope.kind = .function) :
    FnOf scope (cxOf (L2.CX P w) P w K mg base N qual scope f cdv Ar fr sh Ha E) where
  fn := fun _ _ => rfl
  pass := L2.passes_of rfl
  kind := hk
  stk := rfl
  frm := rfl
  noex := rfl
theorem fnP (g : Glob G S P w K mg base k) {x qual : Str} {params : Arguments} {body : List Stmt} {scope : Scope} {f : Addr} {fd : FuncData} {N ps : List Str} {b : Ss} (F : FunD K x qual params body scope [] [] f fd) (Sc : FnScope N ps scope) (hb : chkSs N scope b body = true) :
    FnG P w K mg base (k + 1) f fd ps (spP S K ps.length (runP G N.length ps.length b)) := by
  refine fnG_of F Sc (fun vs H Q E h => h.1) fun cdv Ar fr sh Ha vs Q E hr hgd hsp => ?_
  obtain ⟨hl, Hd, ds, le, rd, m⟩ := hsp
  refine ⟨_, soundS G N b S _ scope _ body (ctx_of (CXl := trivial) (E := E) g Sc.nd hr hgd) (fnOf_of Sc.kind) hb, Hd, [], _, [], ⟨le, .nil, rfl, fun n a c h1 h2 => by simp at h1, fun a ha => by cases ha⟩, relS_start rd.ws, ?_⟩
  unfold runP at m
  rw [if_pos (by rw [← rd.length]; exact hl)] at m
  cases ho : exs G b (ini N.length (ds.map W.d)) [] with
  | bad => rw [ho] at m; exact m.elim
  | brk ro st => rw [ho] at m; exact m.elim
  | cnt ro st => rw [ho] at m; exact m.elim
  | nx ro st =>
    rw [ho] at m
    exact fun σ Hd' io' H' e l rs => m .non Hd' H' e.forget l.sub .non
  | exc x ro st =>
    rw [ho] at m
    exact fun σ cls d Hd' io' H' e l rs q => m Hd' H' cls d e.forget l.sub q
  | ret w1 st =>
    rw [ho] at m
    intro v Hd' io' H' e l r
    unfold outP at m
    dsimp only at m
    cases hk : keepD st w1 with
    | bad => rw [hk] at m; exact m.elim
    | exc x s => exact (keepD_noexc hk).elim
    | ok d st2 =>
      rw [hk] at m
      obtain ⟨Hd2, e2, l2, r2⟩ := keepD_ok l r hk
      exact m v Hd2 H' (e.trans e2).forget l2.sub r2
theorem fnS (g : Glob G S P w K mg base k) {x qual : Str} {params : Arguments} {body : List Stmt} {scope : Scope} {f : Addr} {fd : FuncData} {N ps : List Str} {b : Ss} (F : FunD K x qual params body scope [] [] f fd) (Sc : FnScope N ps scope) (hb : chkSs N scope b body = true) :
    FnG P w K mg base (k + 1) f fd ps (spS S K ps.length (runS G N.length ps.length b)) := by
  refine fnG_of F Sc (fun vs H Q E h => h.1) fun cdv Ar fr sh Ha vs Q E hr hgd hsp => ?_
  obtain ⟨hl, Hd, io, st, ws, l0, rw_, m⟩ := hsp
  refine ⟨_, soundS G N b S _ scope _ body (ctx_of (CXl := trivial) (E := E) g Sc.nd hr hgd) (fnOf_of Sc.kind) hb, Hd, io, _, st, l0, relS_start rw_, ?_⟩
  unfold runS at m
  rw [if_pos (by rw [← rw_.length]; exact hl)] at m
  cases ho : exs G b (ini N.length ws) st with
  | bad => rw [ho] at m; exact m.elim
  | brk ro st => rw [ho] at m; exact m.elim
  | cnt ro st => rw [ho] at m; exact m.elim
  | nx ro st =>
    rw [ho] at m
    exact fun σ Hd' io' H' e l rs => m .non Hd' io' H' e l .non
  | exc x ro st =>
    rw [ho] at m
    exact fun σ cls d Hd' io' H' e l rs q => m Hd' io' H' e l cls d q
  | ret w1 st =>
    rw [ho] at m
    exact fun v Hd' io' H' e l r => m v Hd' io' H' e l r
end
/-! ### a law -/
theorem law_sp {S : IsX} {K : PySem.W.Frag} {F : List D → Option (Except Xv D)} {ns : List Int} {H : Hp} {a : Addr} (h : F [.scr ns] = some (.ok (.bl true))) (hS : SqL K H a (ns.map V.int)) : spP S K 1 F [.ref a] H (fun v _ => v = .bl true) fun _ _ _ => False := by
  refine ⟨rfl, H, [.scr ns], Le.refl H, .cons (.scr hS) .nil, ?_⟩
  rw [h]
  intro v Hd' H' _ _ r
  cases r
  rfl
end Ev
set_option Elab.async false
set_option linter.all false
set_option maxRecDepth 100000
set_option maxHeartbeats 1000000
namespace Ev
open PySem PySem.Spec PyProof.Rows L2
/-! ### rewriting -/
@[simp] theorem peek_d (st : Store) (x : D) : peek st (.d x) = some x := rfl
@[simp] theorem opt2_dd {α : Type} (st : Store) (x y : D) (f : D → D → Option α) : opt2 st (.d x) (.d y) f = f x y := rfl
@[simp] theorem keepD_d (st : Store) (x : D) : keepD st (.d x) = .ok x st := rfl
@[simp] theorem keepAll_nil (st : Store) : keepAll [] st = .ok [] st := rfl
@[simp] theorem keepAll_d (st : Store) (x : D) (r : List W) : keepAll (.d x :: r) st = (keepAll r st).bind fun ds st2 => .ok (x :: ds) st2 := rfl
@[simp] theorem peekAll_nil (st : Store) : peekAll st [] = some [] := rfl
@[simp] theorem peekAll_d (st : Store) (x : D) (r : List W) : peekAll st (.d x :: r) = (peekAll st r).map (x :: ·) := rfl
@[simp] theorem okD_some (d : D) (st : Store) : okD (some d) st = .ok (.d d) st := rfl
@[simp] theorem okB_some (d : Bool) (st : Store) : okB (some d) st = .ok (.d (.bl d)) st := rfl
@[simp] theorem okE_ok (d : D) (st : Store) : okE (some (.ok d)) st = .ok (.d d) st := rfl
@[simp] theorem okE_err (x : Xv) (st : Store) : okE (some (.error x)) st = .exc x st := rfl
@[simp] theorem okL_some (d : List D) (st : Store) : okL (some d) st = .ok d st := rfl
@[simp] theorem tst_bl {α : Type} (b : Bool) (st : Store) (f : Bool → W → Store → R α) : (R.ok (.d (.bl b)) st).tst f = f b (.d (.bl b)) st := rfl
@[simp] theorem tst_non {α : Type} (st : Store) (f : Bool → W → Store → R α) : (R.ok (.d .non) st).tst f = f false (.d .non) st := rfl
@[simp] theorem tst_lst {α : Type} (ds : List D) (st : Store) (f : Bool → W → Store → R α) : (R.ok (.d (.lst ds)) st).tst f = f (!ds.isEmpty) (.d (.lst ds)) st := rfl
@[simp] theorem tst_int {α : Type} (i : Int) (st : Store) (f : Bool → W → Store → R α) : (R.ok (.d (.int i)) st).tst f = f (i != 0) (.d (.int i)) st := rfl
@[simp] theorem to_bl (b : Bool) (st : Store) (ro : Ro) (f : Bool → Store → O) : (R.ok (.d (.bl b)) st).to ro f = f b st := rfl
@[simp] theorem to_lst (ds : List D) (st : Store) (ro : Ro) (f : Bool → Store → O) : (R.ok (.d (.lst ds)) st).to ro f = f (!ds.isEmpty) st := rfl
@[simp] theorem o_exc {α : Type} (x : Xv) (st : Store) (ro : Ro) (f : α → Store → O) : (R.exc x st : R α).o ro f = .exc x ro st := rfl
@[simp] theorem to_exc (x : Xv) (st : Store) (ro : Ro) (f : Bool → Store → O) : (R.exc x st).to ro f = .exc x ro st := rfl
@[simp] theorem tst_exc {α : Type} (x : Xv) (st : Store) (f : Bool → W → Store → R α) : (R.exc x st).tst f = .exc x st := rfl
@[simp] theorem nox_ok' {α : Type} (a : α) (st : Store) : (R.ok a st).nox = .ok a st := rfl
@[simp] theorem then_ret (w : W) (st : Store) (f : Ro → Store → O) : (O.ret w st).then f = .ret w st := rfl
@[simp] theorem then_brk (ro : Ro) (st : Store) (f : Ro → Store → O) : (O.brk ro st).then f = .brk ro st := rfl
@[simp] theorem then_cnt (ro : Ro) (st : Store) (f : Ro → Store → O) : (O.cnt ro st).then f = .cnt ro st := rfl
@[simp] theorem then_exc (x : Xv) (ro : Ro) (st : Store) (f : Ro → Store → O) : (O.exc x ro st).then f = .exc x ro st := rfl
@[simp] theorem turn_nx (ro : Ro) (st : Store) (f : Ro → Store → O) : (O.nx ro st).turn f = f ro st := rfl
@[simp] theorem turn_cnt (ro : Ro) (st : Store) (f : Ro → Store → O) : (O.cnt ro st).turn f = f ro st := rfl
@[simp] theorem turn_brk (ro : Ro) (st : Store) (f : Ro → Store → O) : (O.brk ro st).turn f = .nx ro st := rfl
@[simp] theorem turn_ret (w : W) (st : Store) (f : Ro → Store → O) : (O.ret w st).turn f = .ret w st := rfl
@[simp] theorem outP_ret (d : D) (st : Store) : outP (.ret (.d d) st) = some (.ok d) := rfl
@[simp] theorem outP_nx (ro : Ro) (st : Store) : outP (.nx ro st) = some (.ok .non) := rfl
@[simp] theorem outP_exc (x : Xv) (ro : Ro) (st : Store) : outP (.exc x ro st) = some (.error x) := rfl
@[simp] theorem outS_ret (w : W) (st : Store) : outS (.ret w st) = .ok w st := rfl
@[simp] theorem outS_nx (ro : Ro) (st : Store) : outS (.nx ro st) = .ok (.d .non) st := rfl
@[simp] theorem outS_exc (x : Xv) (ro : Ro) (st : Store) : outS (.exc x ro st) = .exc x st := rfl
/-! operators -/
@[simp] theorem bin_add (i j : Int) : binD .Add (.int i) (.int j) = some (.int (i + j)) := rfl
@[simp] theorem bin_sub (i j : Int) : binD .Sub (.int i) (.int j) = some (.int (i - j)) := rfl
theorem bin_addL (a b : List D) (h : a.length + b.length ≤ 1000000) : binD .Add (.lst a) (.lst b) = some (.lst (a ++ b)) :=
  if_pos (Nat.le_trans h (by rw [sizeLine_eq]; decide))
theorem bin_addS (a b : Str) (h : a.length + b.length ≤ 1000000) : binD .Add (.str a) (.str b) = some (.str (a ++ b)) :=
  if_pos (Nat.le_trans h (by rw [sizeLine_eq]; decide))
theorem log2_lt {n k : Nat} (h : n < 2 ^ k) (hk : 0 < k) : n.log2 < k := by
  rcases Nat.eq_zero_or_pos n with rfl | hn
  · simpa using hk
  · exact (Nat.log2_lt (by omega)).mpr h
/-- a whole number that is not great -/
def Sm (i : Int) : Prop := i.natAbs < 2 ^ 100000
theorem Sm.log {i : Int} (h : Sm i) : i.natAbs.log2 < 100000 := log2_lt h (by decide)
theorem sm_of {i : Int} (h : -(2 ^ 4096) < i ∧ i < 2 ^ 4096) : Sm i := by
  unfold Sm
  have : i.natAbs < 2 ^ 4096 := by omega
  exact Nat.lt_of_lt_of_le this (Nat.pow_le_pow_right (by decide) (by decide))
theorem bin_mul (i j : Int) (h : Sm i) (k : Sm j) : binD .Mult (.int i) (.int j) = some (.int (i * j)) :=
  if_pos (by have := h.log; have := k.log; omega)
theorem bin_mod (i j : Int) (h : 0 < j) : binD .Mod (.int i) (.int j) = some (.int (i % j)) := if_pos h
theorem bin_fdiv (i j : Int) (h : 0 < j) (k : j < 2 ^ 64) : binD .FloorDiv (.int i) (.int j) = some (.int (i / j)) :=
  if_pos ⟨h, Nat.lt_trans (log2_lt (k := 64) (by omega) (by decide)) (by decide)⟩
theorem bin_pow (i : Int) (n : Nat) (h : i.natAbs < 2 ^ 64) (k : n ≤ 1000000) : binD .Pow (.int i) (.int n) = some (.int (i ^ n)) :=
  (if_pos (show (0 : Int) ≤ n ∧ (n : Int) ≤ 1000000 ∧ i.natAbs < 2 ^ 64 from ⟨by omega, by omega, h⟩)).trans (by simp)
@[simp] theorem cmp_lt (i j : Int) : cmpD .Lt (.int i) (.int j) = some (decide (i < j)) := rfl
@[simp] theorem cmp_le (i j : Int) : cmpD .LtE (.int i) (.int j) = some (decide (i ≤ j)) := rfl
@[simp] theorem cmp_gt (i j : Int) : cmpD .Gt (.int i) (.int j) = some (decide (j < i)) := rfl
@[simp] theorem cmp_ge (i j : Int) : cmpD .GtE (.int i) (.int j) = some (decide (j ≤ i)) := rfl
@[simp] theorem cmp_eqI (i j : Int) : cmpD .Eq (.int i) (.int j) = some (i == j) := rfl
@[simp] theorem cmp_neI (i j : Int) : cmpD .NotEq (.int i) (.int j) = some (!(i == j)) := rfl
@[simp] theorem cmp_eqS (i j : Str) : cmpD .Eq (.str i) (.str j) = some (i == j) := rfl
@[simp] theorem cmp_neS (i j : Str) : cmpD .NotEq (.str i) (.str j) = some (!(i == j)) := rfl
@[simp] theorem cmp_is (d : D) : cmpD .Is d .non = some d.isNon := by cases d <;> rfl
@[simp] theorem cmp_isnot (d : D) : cmpD .IsNot d .non = some (!d.isNon) := by cases d <;> rfl
theorem nods_all : ∀ ds : List D, D.nods ds = ds.all D.nod
  | [] => rfl
  | d :: ds => by rw [D.nods, nods_all ds]; rfl
theorem lenNe_self (d : D) : lenNe d d = false := by cases d <;> simp [lenNe]
theorem eqD_self (d : D) (h : D.nod d = true) (k : D.dep d ≤ 60) : eqD d d = some true := by
  unfold eqD shallow
  rw [if_neg (by rw [lenNe_self]; decide), h, D.eqv_self d h]
  simp [k]
/-- one sign in a text -/
theorem in_sign (a : Str) (c : Nat) : cmpD .In (.str ⟨#[c]⟩) (.str a) = some (decide (c ∈ a.cps.toList)) :=
  congrArg some (StrLaws.found_one a c)
theorem notin_sign (a : Str) (c : Nat) : cmpD .NotIn (.str ⟨#[c]⟩) (.str a) = some (!decide (c ∈ a.cps.toList)) :=
  congrArg (fun b => some (!b)) (StrLaws.found_one a c)
theorem len_str (z : Str) (h : z.length ≤ 1000000) : biD .len [.str z] = some (.int z.length) := if_pos (Nat.le_trans h (by rw [sizeLine_eq]; decide))
@[simp] theorem len_lst (z : List D) : biD .len [.lst z] = some (.int z.length) := rfl
@[simp] theorem len_tup (z : List D) : biD .len [.tup z] = some (.int z.length) := rfl
@[simp] theorem len_scr (z : List Int) : biD .len [.scr z] = some (.int z.length) := rfl
def signs (z : Str) : List D := z.cps.toList.map fun c => .str ⟨#[c]⟩
theorem items_str (z : Str) (h : z.length ≤ 1000000) : itemsOf (.str z) = some (signs z) := if_pos (Nat.le_trans h (by rw [sizeLine_eq]; decide))
@[simp] theorem items_lst (z : List D) : itemsOf (.lst z) = some z := rfl
@[simp] theorem items_tup (z : List D) : itemsOf (.tup z) = some z := rfl
@[simp] theorem items_scr (z : List Int) : itemsOf (.scr z) = some (z.map .int) := rfl
theorem boolsOf_map : ∀ bs : List Bool, boolsOf (bs.map D.bl) = some bs
  | [] => rfl
  | b :: bs => by simp [boolsOf, boolsOf_map bs]
theorem intsOf_map : ∀ bs : List Int, intsOf (bs.map D.int) = some bs
  | [] => rfl
  | b :: bs => by simp [intsOf, intsOf_map bs]
theorem all_bools (bs : List Bool) : biD .all [.lst (bs.map D.bl)] = some (.bl (bs.all id)) := by
  show (boolsOf _).map _ = _
  rw [boolsOf_map]; rfl
theorem any_bools (bs : List Bool) : biD .any [.lst (bs.map D.bl)] = some (.bl (bs.any id)) := by
  show (boolsOf _).map _ = _
  rw [boolsOf_map]; rfl
theorem sum_ints (bs : List Int) : biD .sum [.lst (bs.map D.int)] = some (.int bs.sum) := by
  show (intsOf _).map _ = _
  rw [intsOf_map]; rfl
@[simp] theorem sum_scr (bs : List Int) : biD .sum [.scr bs] = some (.int bs.sum) := rfl
/-! comprehensions -/
/-- no test, each item's value -/
theorem lc_map (f : D → D) {fe : Ro → Store → R W} {t : T} {ro : Ro} {st : Store} : ∀ (xs : List D) (acc : List D), (∀ x ∈ xs, ∃ ro1, asgT t x ro = some ro1 ∧ fe ro1 st = .ok (.d (f x)) st) →
    lcRun (fun _ st => .ok (.d (.bl true)) st) fe t ro xs st acc = .ok (acc ++ xs.map f) st
  | [], acc, _ => by simp [lcRun]
  | x :: xs, acc, h => by
    obtain ⟨ro1, h1, h2⟩ := h x (by simp)
    simp only [lcRun, h1, tst_bl, if_true, h2, R.bind_ok, keepD_d]
    rw [lc_map f xs (acc ++ [f x]) fun y hy => h y (by simp [hy])]
    simp
/-- a test, each item's value -/
theorem lc_filter (p : D → Bool) (f : D → D) {fc fe : Ro → Store → R W} {t : T} {ro : Ro} {st : Store} : ∀ (xs : List D) (acc : List D), (∀ x ∈ xs, ∃ ro1, asgT t x ro = some ro1 ∧ fc ro1 st = .ok (.d (.bl (p x))) st ∧ (p x = true → fe ro1 st = .ok (.d (f x)) st)) →
    lcRun fc fe t ro xs st acc = .ok (acc ++ (xs.filter p).map f) st
  | [], acc, _ => by simp [lcRun]
  | x :: xs, acc, h => by
    obtain ⟨ro1, h1, h2, h3⟩ := h x (by simp)
    simp only [lcRun, h1, h2, tst_bl]
    cases hp : p x with
    | false =>
      simp only [Bool.false_eq_true, if_false]
      rw [lc_filter p f xs acc fun y hy => h y (by simp [hy])]
      simp [hp]
    | true =>
      simp only [if_true, h3 hp, R.bind_ok, keepD_d]
      rw [lc_filter p f xs (acc ++ [f x]) fun y hy => h y (by simp [hy])]
      simp [hp]
theorem ev_lc {G : Gt} {own : List Nat} {t : T} {it : I} {c e : M} {ro : Ro} {st : Store} (items : List D) (p : D → Bool) (f : D → D) (hi : evi G it ro st = .ok items st) (hl : items.length ≤ 1000000)
    (h : ∀ x ∈ items, ∃ ro1, asgT t x (wipeW ro own) = some ro1 ∧ ev G c ro1 st = .ok (.d (.bl (p x))) st ∧ (p x = true → ev G e ro1 st = .ok (.d (f x)) st)) : ev G (.lc own t it c e) ro st = .ok (.d (.lst ((items.filter p).map f))) st := by
  simp only [ev, hi, R.bind_ok]
  rw [lc_filter p f items [] h]
  simp [hl]
theorem ev_lcm {G : Gt} {own : List Nat} {t : T} {it : I} {e : M} {ro : Ro} {st : Store} (items : List D) (f : D → D) (hi : evi G it ro st = .ok items st) (hl : items.length ≤ 1000000)
    (h : ∀ x ∈ items, ∃ ro1, asgT t x (wipeW ro own) = some ro1 ∧ ev G e ro1 st = .ok (.d (f x)) st) : ev G (.lc own t it (.bl true) e) ro st = .ok (.d (.lst (items.map f))) st := by
  rw [ev_lc items (fun _ => true) f hi hl fun x hx => ?_]
  · rw [List.filter_eq_self.mpr (fun _ _ => rfl)]
  · obtain ⟨ro1, h1, h2⟩ := h x hx
    exact ⟨ro1, h1, by simp only [ev], fun _ => h2⟩
theorem ex_dput {G : Gt} {o k v : M} {ro : Ro} {st st1 : Store} {n : Nat} {kd d : D} {key : Key} {kvs : List (Key × D)} (h1 : ev G v ro st = .ok (.d d) st1) (h2 : ev G o ro st1 = .ok (.cell n) st1) (h3 : ev G k ro st1 = .ok (.d kd) st1) (h4 : st1[n]? = some (.dic kvs)) (h5 : keyOf kd = some key) (h6 : kvs.length < 1000000) :
    ex G (.dput o k v) ro st = .nx ro (st1.set n (.dic (putD kvs key d))) := by
  simp only [ex, h1, R.o_ok, h2, h3, keepD_d, h4, h5, if_pos h6]
/-! ### the state that digits are drawn from -/
def drc (l c t : Int) : Cell := .dic [(.inr "left", .int l), (.inr "cell", .int c), (.inr "turns", .int t)]
theorem dr_left {st : Store} {n : Nat} {l c t : Int} (h : st[n]? = some (drc l c t)) : dgetD st (.cell n) (.d (.str "left")) = some (.int l) := by
  simp only [dgetD, h, drc, keyOf]
  rfl
theorem dr_cell {st : Store} {n : Nat} {l c t : Int} (h : st[n]? = some (drc l c t)) : dgetD st (.cell n) (.d (.str "cell")) = some (.int c) := by
  simp only [dgetD, h, drc, keyOf]
  rfl
theorem dr_turns {st : Store} {n : Nat} {l c t : Int} (h : st[n]? = some (drc l c t)) : dgetD st (.cell n) (.d (.str "turns")) = some (.int t) := by
  simp only [dgetD, h, drc, keyOf]
  rfl
theorem dr_putL {l c t x : Int} : Cell.dic (putD [(.inr "left", .int l), (.inr "cell", .int c), (.inr "turns", .int t)] (.inr "left") (.int x)) = drc x c t := rfl
theorem dr_putT {l c t x : Int} : Cell.dic (putD [(.inr "left", .int l), (.inr "cell", .int c), (.inr "turns", .int t)] (.inr "turns") (.int x)) = drc l c x := rfl
theorem put_left {G : Gt} {o v : M} {ro : Ro} {st : Store} {n : Nat} {l c t x : Int} (h : st[n]? = some (drc l c t)) (h2 : ev G o ro st = .ok (.cell n) st) (h1 : ev G v ro st = .ok (.d (.int x)) st) : ex G (.dput o (.str "left") v) ro st = .nx ro (st.set n (drc x c t)) :=
  ex_dput (kd := .str "left") (key := .inr "left") h1 h2 (by simp only [ev]) h rfl (by simp)
theorem put_turns {G : Gt} {o v : M} {ro : Ro} {st : Store} {n : Nat} {l c t x : Int} (h : st[n]? = some (drc l c t)) (h2 : ev G o ro st = .ok (.cell n) st) (h1 : ev G v ro st = .ok (.d (.int x)) st) : ex G (.dput o (.str "turns") v) ro st = .nx ro (st.set n (drc l c x)) :=
  ex_dput (kd := .str "turns") (key := .inr "turns") h1 h2 (by simp only [ev]) h rfl (by simp)
/-- digits can be drawn at n, at most T turns were made -/
def Drw (st : Store) (n : Nat) (T : Int) : Prop := ∃ l c t : Int, st[n]? = some (drc l c t) ∧ 0 ≤ l ∧ 0 ≤ t ∧ t ≤ T
/-- nothing but the cell n changed -/
def Oth (n : Nat) (st st' : Store) : Prop := st'.length = st.length ∧ ∀ m, m ≠ n → st'[m]? = st[m]?
theorem Oth.refl {n : Nat} {st : Store} : Oth n st st := ⟨rfl, fun _ _ => rfl⟩
theorem Oth.trans {n : Nat} {a b c : Store} (h : Oth n a b) (k : Oth n b c) : Oth n a c := ⟨k.1.trans h.1, fun m hm => (k.2 m hm).trans (h.2 m hm)⟩
theorem Oth.set {n : Nat} {st : Store} {x : Cell} : Oth n st (st.set n x) := ⟨by simp, fun m hm => by rw [List.getElem?_set_ne (fun z => hm z.symm)]⟩
theorem set_at {st : Store} {n : Nat} {a b : Cell} (h : st[n]? = some a) : (st.set n b)[n]? = some b := by
  rw [List.getElem?_set_self (List.getElem?_eq_some_iff.mp h).1]
/-! ### one constructor at a time -/
section
variable {G : Gt} {ro : Ro} {st : Store}
theorem ev_var {i : Nat} {w : W} (h : ro[i]? = some (some w)) : ev G (.var i) ro st = .ok w st := by simp only [ev, h]
theorem ev_non : ev G .non ro st = .ok (.d .non) st := by simp only [ev]
theorem ev_bl (b : Bool) : ev G (.bl b) ro st = .ok (.d (.bl b)) st := by simp only [ev]
theorem ev_int (i : Int) : ev G (.int i) ro st = .ok (.d (.int i)) st := by simp only [ev]
theorem ev_str (i : Str) : ev G (.str i) ro st = .ok (.d (.str i)) st := by simp only [ev]
theorem ev_glob (x : Str) : ev G (.glob x) ro st = okD (G.con x) st := by simp only [ev]
theorem ev_bin (op : Operator) (a b : M) : ev G (.bin op a b) ro st = (ev G a ro st).bind fun wa st1 => (ev G b ro st1).bind fun wb st2 => okD (opt2 st2 wa wb (binD op)) st2 := by simp only [ev]
theorem ev_cmp (op : CmpOp) (a b : M) : ev G (.cmp op a b) ro st = (ev G a ro st).bind fun wa st1 => (ev G b ro st1).bind fun wb st2 => okB (opt2 st2 wa wb (cmpD op)) st2 := by simp only [ev]
theorem ev_and (a b : M) : ev G (.and2 a b) ro st = (ev G a ro st).tst fun k wa st1 => if k = true then ev G b ro st1 else .ok wa st1 := by simp only [ev]
theorem ev_or (a b : M) : ev G (.or2 a b) ro st = (ev G a ro st).tst fun k wa st1 => if k = true then .ok wa st1 else ev G b ro st1 := by simp only [ev]
theorem ev_not (a : M) : ev G (.not a) ro st = (ev G a ro st).tst fun k _ st1 => .ok (.d (.bl (!k))) st1 := by simp only [ev]
theorem ev_ite (c a b : M) : ev G (.ite c a b) ro st = (ev G c ro st).tst fun k _ st1 => if k = true then ev G a ro st1 else ev G b ro st1 := by simp only [ev]
theorem ev_dget (d k : M) : ev G (.dget d k) ro st = (ev G d ro st).bind fun wd st1 => (ev G k ro st1).bind fun wk st2 => okD (dgetD st2 wd wk) st2 := by simp only [ev]
theorem ev_sub (a i : M) : ev G (.sub a i) ro st = (ev G a ro st).bind fun wa st1 => (ev G i ro st1).bind fun wb st2 => okD (opt2 st2 wa wb ixD) st2 := by simp only [ev]
theorem ev_bi (b : Bi) (es : Ms) : ev G (.bi b es) ro st = (evs G es ro st).bind fun ws st1 => okD ((peekAll st1 ws).bind (biD b)) st1 := by simp only [ev]
theorem ev_isi (a : M) (t : Ty) : ev G (.isi a t) ro st = (ev G a ro st).bind fun wa st1 => okB ((peek st1 wa).bind fun x => isiD x t) st1 := by simp only [ev]
theorem ev_lst (es : Ms) : ev G (.lst es) ro st = (evs G es ro st).bind fun ws st1 => (keepAll ws st1).bind fun ds st2 => if ds.length ≤ 1000 then .ok (.d (.lst ds)) st2 else .bad := by simp only [ev]
theorem ev_tup (es : Ms) : ev G (.tup es) ro st = (evs G es ro st).bind fun ws st1 => (keepAll ws st1).bind fun ds st2 => if ds.length ≤ 1000 then .ok (.d (.tup ds)) st2 else .bad := by simp only [ev]
theorem ev_callP {f : Str} {F : List D → Option (Except Xv D)} (h : G.fp f = some F) (es : Ms) : ev G (.callP f es) ro st = (evs G es ro st).bind fun ws st1 => (keepAll ws st1).bind fun ds st2 => okE (F ds) st2 := by simp only [ev, h]
theorem ev_callS {f : Str} {F : List W → Store → R W} (h : G.fs f = some F) (es : Ms) : ev G (.callS f es) ro st = (evs G es ro st).bind fun ws st1 => F ws st1 := by simp only [ev, h]
theorem evs_nil : evs G .nil ro st = .ok [] st := by simp only [evs]
theorem evs_cons (e : M) (r : Ms) : evs G (.cons e r) ro st = (ev G e ro st).bind fun w st1 => (evs G r ro st1).bind fun ws st2 => .ok (w :: ws) st2 := by simp only [evs]
theorem ev_chain {op op' : CmpOp} {a b c : M} {x y z : D} {p q : Bool} (ha : ev G a ro st = .ok (.d x) st) (hb : ev G b ro st = .ok (.d y) st) (hc : ev G c ro st = .ok (.d z) st) (h1 : cmpD op x y = some p) (h2 : cmpD op' y z = some q) :
    ev G (.chain op op' a b c) ro st = .ok (.d (.bl (p && q))) st := by
  simp only [ev, ha, R.bind_ok, hb, opt2_dd, h1]
  cases p
  · rfl
  · simp only [hc, R.bind_ok, opt2_dd, h2, okB_some, Bool.true_and]
theorem ev_lcU (own : List Nat) (t : T) (it : I) (c e : M) : ev G (.lc own t it c e) ro st = (evi G it ro st).bind fun items st1 => (lcRun (ev G c) (ev G e) t (wipeW ro own) items st1 []).nox.bind fun ds st2 => if items.length ≤ 1000000 then .ok (.d (.lst ds)) st2 else .bad := by simp only [ev]
theorem ev_slc0 (a : M) (i : Int) : ev G (.slc a .absent (.int i)) ro st = (ev G a ro st).bind fun wa st1 => okD ((peek st1 wa).bind fun x => slD x none (some i)) st1 := by simp only [ev, part, R.bind_ok, peek_d]
theorem evi_it (e : M) : evi G (.it e) ro st = (ev G e ro st).bind fun w st1 => (keepD st1 w).bind fun d st2 => okL (itemsOf d) st2 := by simp only [evi]
theorem ev_mthS {m : Mt} {o : M} {z : Str} (h : ev G o ro st = .ok (.d (.str z)) st) (es : Ms) : ev G (.mth m o es) ro st = (evs G es ro st).bind fun ws st2 => okD ((peekAll st2 ws).bind (mtD m (.str z))) st2 := by simp only [ev, h, R.bind_ok]
theorem ex_set (i : Nat) (e : M) : ex G (.set i e) ro st = (ev G e ro st).o ro fun w st1 => setRo ro i w st1 := by simp only [ex]
theorem ex_ret (e : M) : ex G (.ret e) ro st = (ev G e ro st).o ro fun w st1 => .ret w st1 := by simp only [ex]
theorem ex_iff (c : M) (a b : Ss) : ex G (.iff c a b) ro st = (ev G c ro st).to ro fun k st1 => if k = true then exs G a ro st1 else exs G b ro st1 := by simp only [ex]
theorem ex_for (t : T) (it : I) (b : Ss) : ex G (.for_ t it b) ro st = (evi G it ro st).o ro fun ds st1 => forRun (exs G b) t ds ro st1 := by simp only [ex]
theorem exs_nil : exs G .nil ro st = .nx ro st := by simp only [exs]
theorem exs_cons (s : S) (r : Ss) : exs G (.cons s r) ro st = (ex G s ro st).then fun ro1 st1 => exs G r ro1 st1 := by simp only [exs]
theorem setRo_ok' {i : Nat} {w : W} (h : i < ro.length) : setRo ro i w st = .nx (ro.set i (some w)) st := if_pos h
end
end Ev
set_option Elab.async false
set_option linter.all false
set_option maxRecDepth 100000
set_option maxHeartbeats 1000000
namespace Ev
open PySem PySem.Spec PyProof.Rows L2
section
variable {G : Gt} {ro : Ro} {st : Store}
theorem ev_or_b {a b : M} {p q : Bool} (ha : ev G a ro st = .ok (.d (.bl p)) st) (hb : p = false → ev G b ro st = .ok (.d (.bl q)) st) : ev G (.or2 a b) ro st = .ok (.d (.bl (p || q))) st := by
  rw [ev_or, ha, tst_bl]
  cases p
  · rw [if_neg (by decide), hb rfl]; rfl
  · rfl
theorem ev_and_b {a b : M} {p q : Bool} (ha : ev G a ro st = .ok (.d (.bl p)) st) (hb : p = true → ev G b ro st = .ok (.d (.bl q)) st) : ev G (.and2 a b) ro st = .ok (.d (.bl (p && q))) st := by
  rw [ev_and, ha, tst_bl]
  cases p
  · rfl
  · rw [if_pos rfl, hb rfl]; rfl
theorem ev_not_b {a : M} {p : Bool} (ha : ev G a ro st = .ok (.d (.bl p)) st) : ev G (.not a) ro st = .ok (.d (.bl (!p))) st := by rw [ev_not, ha, tst_bl]
theorem ev_bin_d {op : Operator} {a b : M} {x y z : D} (ha : ev G a ro st = .ok (.d x) st) (hb : ev G b ro st = .ok (.d y) st) (h : binD op x y = some z) : ev G (.bin op a b) ro st = .ok (.d z) st := by
  rw [ev_bin, ha, R.bind_ok, hb, R.bind_ok, opt2_dd, h, okD_some]
theorem ev_cmp_d {op : CmpOp} {a b : M} {x y : D} {z : Bool} (ha : ev G a ro st = .ok (.d x) st) (hb : ev G b ro st = .ok (.d y) st) (h : cmpD op x y = some z) : ev G (.cmp op a b) ro st = .ok (.d (.bl z)) st := by
  rw [ev_cmp, ha, R.bind_ok, hb, R.bind_ok, opt2_dd, h, okB_some]
theorem ev_sub_d {a b : M} {x y z : D} (ha : ev G a ro st = .ok (.d x) st) (hb : ev G b ro st = .ok (.d y) st) (h : ixD x y = some z) : ev G (.sub a b) ro st = .ok (.d z) st := by
  rw [ev_sub, ha, R.bind_ok, hb, R.bind_ok, opt2_dd, h, okD_some]
theorem ev_isi_d {a : M} {t : Ty} {x : D} {b : Bool} (ha : ev G a ro st = .ok (.d x) st) (h : isiD x t = some b) : ev G (.isi a t) ro st = .ok (.d (.bl b)) st := by
  rw [ev_isi, ha, R.bind_ok, peek_d]
  show okB (isiD x t) st = _
  rw [h, okB_some]
theorem ev_bi1 {b : Bi} {a : M} {x y : D} (ha : ev G a ro st = .ok (.d x) st) (h : biD b [x] = some y) : ev G (.bi b (.cons a .nil)) ro st = .ok (.d y) st := by
  rw [ev_bi, evs_cons, ha, R.bind_ok, evs_nil, R.bind_ok, R.bind_ok, peekAll_d, peekAll_nil]
  show okD (biD b [x]) st = _
  rw [h, okD_some]
theorem ev_ite_d {c a b : M} {p : Bool} {x y : D} (hc : ev G c ro st = .ok (.d (.bl p)) st) (ha : p = true → ev G a ro st = .ok (.d x) st) (hb : p = false → ev G b ro st = .ok (.d y) st) : ev G (.ite c a b) ro st = .ok (.d (if p = true then x else y)) st := by
  rw [ev_ite, hc, tst_bl]
  cases p
  · rw [if_neg (by decide), hb rfl]; rfl
  · rw [if_pos rfl, ha rfl]; rfl
theorem ev_glob_d {x : Str} {d : D} (h : G.con x = some d) : ev G (.glob x) ro st = .ok (.d d) st := by rw [ev_glob, h, okD_some]
theorem ev_mth1 {m : Mt} {o a : M} {z : Str} {x y : D} (ho : ev G o ro st = .ok (.d (.str z)) st) (ha : ev G a ro st = .ok (.d x) st) (h : mtD m (.str z) [x] = some y) : ev G (.mth m o (.cons a .nil)) ro st = .ok (.d y) st := by
  rw [ev_mthS ho, evs_cons, ha, R.bind_ok, evs_nil, R.bind_ok, R.bind_ok, peekAll_d, peekAll_nil]
  show okD (mtD m (.str z) [x]) st = _
  rw [h, okD_some]
theorem ev_callP1 {f : Str} {F : List D → Option (Except Xv D)} (hf : G.fp f = some F) {a : M} {x y : D} (ha : ev G a ro st = .ok (.d x) st) (h : F [x] = some (.ok y)) : ev G (.callP f (.cons a .nil)) ro st = .ok (.d y) st := by
  rw [ev_callP hf, evs_cons, ha, R.bind_ok, evs_nil, R.bind_ok, R.bind_ok, keepAll_d, keepAll_nil, R.bind_ok, R.bind_ok, h, okE_ok]
theorem ev_callP3 {f : Str} {F : List D → Option (Except Xv D)} (hf : G.fp f = some F) {a b c : M} {x y z r : D} (ha : ev G a ro st = .ok (.d x) st) (hb : ev G b ro st = .ok (.d y) st) (hc : ev G c ro st = .ok (.d z) st) (h : F [x, y, z] = some (.ok r)) : ev G (.callP f (.cons a (.cons b (.cons c .nil)))) ro st = .ok (.d r) st := by
  simp only [ev_callP hf, evs_cons, ha, R.bind_ok, hb, hc, evs_nil, keepAll_d, keepAll_nil, h, okE_ok]
/-- all of a list's parts -/
theorem ev_lst_d {es : Ms} {ds : List D} (h : evs G es ro st = .ok (ds.map W.d) st) (hl : ds.length ≤ 1000) : ev G (.lst es) ro st = .ok (.d (.lst ds)) st := by
  have k : ∀ ds : List D, keepAll (ds.map W.d) st = .ok ds st := fun ds => by
    induction ds with
    | nil => rfl
    | cons d ds ih => rw [List.map_cons, keepAll_d, ih, R.bind_ok]
  rw [ev_lst, h, R.bind_ok, k, R.bind_ok, if_pos hl]
theorem evs_d {a : M} {r : Ms} {x : D} {ds : List D} (ha : ev G a ro st = .ok (.d x) st) (hr : evs G r ro st = .ok (ds.map W.d) st) : evs G (.cons a r) ro st = .ok ((x :: ds).map W.d) st := by
  rw [evs_cons, ha, R.bind_ok, hr, R.bind_ok]; rfl
theorem evs_0 : evs G .nil ro st = .ok (([] : List D).map W.d) st := evs_nil
theorem ev_lst0 : ev G (.lst .nil) ro st = .ok (.d (.lst [])) st := ev_lst_d (ds := []) evs_0 (by decide)
theorem ex_set_d {i : Nat} {e : M} {w : W} {st1 : Store} (h : ev G e ro st = .ok w st1) (hi : i < ro.length) : ex G (.set i e) ro st = .nx (ro.set i (some w)) st1 := by
  rw [ex_set, h, R.o_ok, setRo_ok' hi]
theorem ex_ret_d {e : M} {w : W} {st1 : Store} (h : ev G e ro st = .ok w st1) : ex G (.ret e) ro st = .ret w st1 := by rw [ex_ret, h, R.o_ok]
theorem exs_nx {s : S} {r : Ss} {ro1 : Ro} {st1 : Store} (h : ex G s ro st = .nx ro1 st1) : exs G (.cons s r) ro st = exs G r ro1 st1 := by rw [exs_cons, h, O.then_nx]
theorem exs_ret {s : S} {r : Ss} {w : W} {st1 : Store} (h : ex G s ro st = .ret w st1) : exs G (.cons s r) ro st = .ret w st1 := by rw [exs_cons, h, then_ret]
theorem ex_iff_b {c : M} {a b : Ss} {p : Bool} {st1 : Store} (h : ev G c ro st = .ok (.d (.bl p)) st1) : ex G (.iff c a b) ro st = if p = true then exs G a ro st1 else exs G b ro st1 := by rw [ex_iff, h, to_bl]
end
/-! ### texts -/
def FIG : Str := "0123456789"
def allIn (w a : Str) : Bool := w.cps.toList.all fun c => decide (c ∈ a.cps.toList)
theorem sgn_mem {w : Str} {x : D} (h : x ∈ signs w) : ∃ c, c ∈ w.cps.toList ∧ x = .str ⟨#[c]⟩ := by
  obtain ⟨c, h1, h2⟩ := List.mem_map.mp h
  exact ⟨c, h1, h2.symm⟩
def inS (a : Str) : D → Bool
  | .str z => decide (z.cps.toList.headD 0 ∈ a.cps.toList)
  | _ => false
section
variable {G : Gt} {own : List Nat} {i : Nat} {eW eA : M} {ro : Ro} {st : Store} {w a : Str}
/-- [sign in a for sign in w] -/
theorem lc_in (hw : ev G eW ro st = .ok (.d (.str w)) st) (hl : w.length ≤ 1000000) (hi : i < (wipeW ro own).length)
    (ha : ∀ c, ev G eA ((wipeW ro own).set i (some (.d (.str ⟨#[c]⟩)))) st = .ok (.d (.str a)) st) :
    ev G (.lc own (.nm i) (.it eW) (.bl true) (.cmp .In (.var i) eA)) ro st = .ok (.d (.lst ((w.cps.toList.map fun c => decide (c ∈ a.cps.toList)).map D.bl))) st := by
  rw [ev_lcm (signs w) (fun x => .bl (inS a x)) (by rw [evi_it, hw, R.bind_ok, keepD_d, R.bind_ok, items_str w hl, okL_some]) (by unfold signs; rw [List.length_map, Array.length_toList]; exact hl) fun x hx => ?_]
  · unfold signs
    rw [List.map_map, List.map_map]
    rfl
  · obtain ⟨c, h1, rfl⟩ := sgn_mem hx
    refine ⟨(wipeW ro own).set i (some (.d (.str ⟨#[c]⟩))), by simp only [asgT, if_pos hi], ?_⟩
    rw [ev_cmp, ev_var (List.getElem?_set_self hi), R.bind_ok, ha, R.bind_ok, opt2_dd, in_sign, okB_some]
    rfl
/-- all([sign in a for sign in w]) -/
theorem all_in (hw : ev G eW ro st = .ok (.d (.str w)) st) (hl : w.length ≤ 1000000) (hi : i < (wipeW ro own).length)
    (ha : ∀ c, ev G eA ((wipeW ro own).set i (some (.d (.str ⟨#[c]⟩)))) st = .ok (.d (.str a)) st) :
    ev G (.bi .all (.cons (.lc own (.nm i) (.it eW) (.bl true) (.cmp .In (.var i) eA)) .nil)) ro st = .ok (.d (.bl (allIn w a))) st := by
  refine ev_bi1 (lc_in hw hl hi ha) ?_
  rw [all_bools, List.all_map]
  rfl
/-- [sign for sign in w if sign not in a] -/
theorem lc_out (hw : ev G eW ro st = .ok (.d (.str w)) st) (hl : w.length ≤ 1000000) (hi : i < (wipeW ro own).length)
    (ha : ∀ c, ev G eA ((wipeW ro own).set i (some (.d (.str ⟨#[c]⟩)))) st = .ok (.d (.str a)) st) :
    ∃ ds : List D, ev G (.lc own (.nm i) (.it eW) (.cmp .NotIn (.var i) eA) (.var i)) ro st = .ok (.d (.lst ds)) st ∧ ds.isEmpty = allIn w a ∧ D.nods ds = true ∧ D.deps ds ≤ 1 := by
  refine ⟨_, ev_lc (signs w) (fun x => !inS a x) (fun x => x) (by rw [evi_it, hw, R.bind_ok, keepD_d, R.bind_ok, items_str w hl, okL_some]) (by unfold signs; rw [List.length_map, Array.length_toList]; exact hl) fun x hx => ?_, ?_, ?_, ?_⟩
  · obtain ⟨c, h1, rfl⟩ := sgn_mem hx
    refine ⟨(wipeW ro own).set i (some (.d (.str ⟨#[c]⟩))), by simp only [asgT, if_pos hi], ?_, fun _ => ev_var (List.getElem?_set_self hi)⟩
    rw [ev_cmp, ev_var (List.getElem?_set_self hi), R.bind_ok, ha, R.bind_ok, opt2_dd, notin_sign, okB_some]
    rfl
  · rw [List.map_id', Bool.eq_iff_iff, List.isEmpty_iff, List.filter_eq_nil_iff]
    unfold allIn
    rw [List.all_eq_true]
    constructor
    · intro h c hc
      have := h (.str ⟨#[c]⟩) (List.mem_map.mpr ⟨c, hc, rfl⟩)
      simpa [inS] using this
    · intro h x hx
      obtain ⟨c, h1, rfl⟩ := sgn_mem hx
      simpa [inS] using h c h1
  · rw [nods_all, List.all_eq_true]
    intro x hx
    rw [List.map_id'] at hx
    obtain ⟨c, h1, rfl⟩ := sgn_mem (List.mem_filter.mp hx).1
    rfl
  · rw [List.map_id']
    have : ∀ ds : List D, (∀ x ∈ ds, ∃ c, x = D.str ⟨#[c]⟩) → D.deps ds ≤ 1 := fun ds => by
      induction ds with
      | nil => intro _; exact Nat.zero_le _
      | cons d ds ih =>
        intro h
        obtain ⟨c, rfl⟩ := h d (by simp)
        have := ih fun x hx => h x (by simp [hx])
        show max 0 (D.deps ds) ≤ 1
        omega
    exact this _ fun x hx => let ⟨c, _, e⟩ := sgn_mem (List.mem_filter.mp hx).1; ⟨c, e⟩
end
theorem index_of {a b : Str} {i : Nat} (h : Builtin.Str.occurrences a b 0 a.length 1 = [i]) : mtD .index (.str a) [.str b] = some (.int i) := by
  show (match Builtin.Str.occurrences a b 0 a.length 1 with
    | i :: _ => some (D.int (i : Nat))
    | [] => none) = _
  rw [h]
theorem fig_index (c : Nat) (h : c ∈ FIG.cps.toList) : mtD .index (.str FIG) [.str ⟨#[c]⟩] = some (.int ((c : Int) - 48)) ∧ 48 ≤ c ∧ c ≤ 57 := by
  have h' : c ∈ [48, 49, 50, 51, 52, 53, 54, 55, 56, 57] := h
  simp only [List.mem_cons, List.mem_nil_iff, or_false] at h'
  rcases h' with rfl | rfl | rfl | rfl | rfl | rfl | rfl | rfl | rfl | rfl
  · exact ⟨(index_of (i := 0) (by decide +kernel)).trans (by rfl), by decide, by decide⟩
  · exact ⟨(index_of (i := 1) (by decide +kernel)).trans (by rfl), by decide, by decide⟩
  · exact ⟨(index_of (i := 2) (by decide +kernel)).trans (by rfl), by decide, by decide⟩
  · exact ⟨(index_of (i := 3) (by decide +kernel)).trans (by rfl), by decide, by decide⟩
  · exact ⟨(index_of (i := 4) (by decide +kernel)).trans (by rfl), by decide, by decide⟩
  · exact ⟨(index_of (i := 5) (by decide +kernel)).trans (by rfl), by decide, by decide⟩
  · exact ⟨(index_of (i := 6) (by decide +kernel)).trans (by rfl), by decide, by decide⟩
  · exact ⟨(index_of (i := 7) (by decide +kernel)).trans (by rfl), by decide, by decide⟩
  · exact ⟨(index_of (i := 8) (by decide +kernel)).trans (by rfl), by decide, by decide⟩
  · exact ⟨(index_of (i := 9) (by decide +kernel)).trans (by rfl), by decide, by decide⟩
theorem int_digits (w : Str) (h : allIn w FIG = true) (h1 : 1 ≤ w.length) (h2 : w.length ≤ 640) : biD .int [.str w] = some (.int (NumText.digitsVal w.cps.toList : Nat)) := by
  have hd : NumText.AllDigits w.cps.toList := fun c hc => (fig_index c (of_decide_eq_true (List.all_eq_true.mp h c hc))).2
  show (if w.length ≤ 640 then (PySem.intText? w).map D.int else none) = _
  rw [if_pos h2, intText_digits hd (fun z => by
    have : w.length = w.cps.toList.length := by rw [Array.length_toList]; rfl
    rw [z] at this
    simp at this
    omega) (by omega)]
  rfl
end Ev
set_option Elab.async false
set_option linter.all false
set_option maxRecDepth 100000
set_option maxHeartbeats 1000000
namespace Ev
open PySem PySem.Spec PyProof.Rows L2
/-! ### the module's classes of exceptions -/
structure XT where
  /-- all classes and tuples that are named -/
  names : List Str
  own : List Str
  ini : List (Str × Str × List Str)
  sub : List (Str × Str × Bool)
  subV : List (Str × Bool)
  exm : List (Str × Str × Bool)
  fld : List (Str × Str)
  tix : List (Str × List Str)
  clc : List Str
  clm : List (Str × Str)
  cfl : List (Str × Str)
theorem look1_mem {α : Type} {x : Str} {a : α} : ∀ {l : List (Str × α)}, look1 l x = some a → (x, a) ∈ l
  | [], h => by cases h
  | (y, b) :: r, h => by
    simp only [look1] at h
    split at h
    · rename_i e; cases h; rw [e]; exact List.mem_cons_self
    · exact List.mem_cons_of_mem _ (look1_mem h)
def look2 {α : Type} : List (Str × Str × α) → Str → Str → Option α
  | [], _, _ => none
  | (y, z, a) :: r, x, u => if x = y ∧ u = z then some a else look2 r x u
theorem look2_mem {α : Type} {x u : Str} {a : α} : ∀ {l : List (Str × Str × α)}, look2 l x u = some a → (x, u, a) ∈ l
  | [], h => by cases h
  | (y, z, b) :: r, h => by
    simp only [look2] at h
    split at h
    · rename_i e; cases h; rw [e.1, e.2]; exact List.mem_cons_self
    · exact List.mem_cons_of_mem _ (look2_mem h)
def XT.mke (t : XT) (x : Str) : Option Mk := match look1 t.ini x with
  | some (f, fs) => some (.ini f fs)
  | none => if x ∈ t.own then some .own else none
def XT.subF (t : XT) (x y : Str) : Option Bool := if y = ("ValueError" : Str) then look1 t.subV x else look2 t.sub x y
def XT.fldF (t : XT) (x f : Str) : Bool := decide ((x, f) ∈ t.fld)
def XT.cflF (t : XT) (x f : Str) : Bool := decide ((x, f) ∈ t.cfl)
def XT.gt (t : XT) (con : Str → Option D) : Gt := ⟨con, fun _ => none, fun _ => none, fun _ => none, fun _ _ => none, t.cflF, look1 t.tix, t.mke, t.subF, look2 t.exm, t.fldF⟩
def ownXB (K : PySem.W.Frag) (c : Str) : Bool := PySem.W.excIn K (He.ga K c) He.veBase "ValueError.__new__" && (PySem.W.keepIn K (.ref (He.ga K c)) && (decide (PySem.W.subIn K (.ref (He.ga K c)) (.type "BaseException") = some true) && decide (PySem.W.typeIn K (.ref (He.ga K c)) = some (.type "type"))))
def iniXB (K : PySem.W.Frag) (c : Str) (fs : List Str) : Bool := oexB K (He.ga K c) && (decide (PySem.W.findIn K (.ref (He.ga K c)) "__init__" = some (some (.ref (He.ma K (He.ga K c) "__init__")))) && (decide (PySem.W.typeIn K (.ref (He.ma K (He.ga K c) "__init__")) = some (.type "function")) && fs.all fun f => decide (PySem.W.findIn K (.ref (He.ga K c)) f = some none)))
def XT.okC (K : PySem.W.Frag) (t : XT) : Bool :=
  t.clc.all (fun c => (He.Fa.cls c).ok K && (He.Fa.mkr c).ok K) && (t.clm.all (fun s => (He.Fa.meth s.1 s.2).ok K) && t.cfl.all fun s => (He.Fa.cls s.1).ok K && (He.Fa.noat s.1 s.2).ok K)
def XT.ok (K : PySem.W.Frag) (t : XT) : Bool := t.okC K && (
  t.own.all (ownXB K) && (t.ini.all (fun i => iniXB K i.1 (i.2.1 :: i.2.2)) && (t.sub.all (fun s => exCB K (He.ga K s.1) && decide (PySem.W.kitOne K (.ref (He.ga K s.1)) (.ref (He.ga K s.2.1)) = some s.2.2)) &&
    (t.subV.all (fun s => exCB K (He.ga K s.1) && decide (PySem.W.kitOne K (.ref (He.ga K s.1)) (.type "ValueError") = some s.2)) && (t.exm.all (fun s => decide (PySem.W.exmOne K (.ref (He.ga K s.1)) (.ref (He.ga K s.2.1)) = some s.2.2)) &&
      (t.fld.all (fun s => exCB K (He.ga K s.1) && decide (PySem.W.findIn K (.ref (He.ga K s.1)) s.2 = some none)) && t.tix.all fun s => He.tupB K s.1 (s.2.map He.Dv.str) && tixB K s.1))))))
def XT.wf (t : XT) : Bool := t.own.all (t.names.contains ·) && (t.ini.all (fun i => t.names.contains i.1) && (t.sub.all (fun s => t.names.contains s.2.1) && (t.exm.all (fun s => t.names.contains s.2.1) && t.tix.all fun s => t.names.contains s.1)))
structure XT.Says (t : XT) (P : Program) (w : World) (K : PySem.W.Frag) (mg : Str → Option Value) (base : Heap) : Prop where
  tix : ∀ x ys, look1 t.tix x = some ys → TixOk K mg x ys
  mke : ∀ x i, t.mke x = some i → MkOk P w K mg base x i
  sub : ∀ x y b, t.subF x y = some b → SubOk K mg x y b
  exm : ∀ x y b, look2 t.exm x y = some b → ExmOk K mg x y b
  fld : ∀ x f, t.fldF x f = true → FldOk K x f
  clc : ∀ c ∈ t.clc, L2.Cls K (He.ga K c) ∧ L2.Mk K (He.ga K c) (He.ma K (He.ga K c) "__init__")
  clm : ∀ c m, (c, m) ∈ t.clm → L2.Meth K (He.ga K c) m (He.ma K (He.ga K c) m)
  cfl : ∀ c f, t.cflF c f = true → L2.Cls K (He.ga K c) ∧ L2.NoAttr K (He.ga K c) f
theorem XT.says {t : XT} {P : Program} {w : World} {K : PySem.W.Frag} {mg : Str → Option Value} {base : Heap} (h : t.ok K = true) (hw : t.wf = true) (hg : ∀ c ∈ t.names, mg c = some (.ref (He.ga K c))) (hv : t.subV ≠ [] → mg "ValueError" = none)
    (hi : ∀ c f fs, (c, f, fs) ∈ t.ini → ∃ fd ps, FnOk P w K mg base (L2.CX P w) 1 (He.ma K (He.ga K c) "__init__") fd ps (spIni K (He.ga K c) (f :: fs)) ∧ L2.Binds K fd ps []) : t.Says P w K mg base := by
  unfold XT.ok at h
  unfold XT.wf at hw
  simp only [Bool.and_eq_true, List.all_eq_true] at h hw
  obtain ⟨h0, h1, h2, h3, h4, h5, h6, h7⟩ := h
  unfold XT.okC at h0
  simp only [Bool.and_eq_true, List.all_eq_true] at h0
  obtain ⟨j1, j2, j3⟩ := h0
  obtain ⟨w1, w2, w3, w4, w5⟩ := hw
  have nm : ∀ c, t.names.contains c = true → mg c = some (.ref (He.ga K c)) := fun c hc => hg c (by simpa using hc)
  refine ⟨fun x ys e => ?_, fun x i e => ?_, fun x y b e => ?_, fun x y b e => ?_, fun x f e => ?_, fun c hc => ?_, fun c m hc => He.meth_ok (j2 _ hc), fun c f hc => ?_⟩
  · have m := look1_mem e
    have q := h7 _ m
    refine ⟨nm _ (w5 _ m), fun H => ?_, tixB_ok q.2⟩
    have z := He.tupB_ok q.1 H
    rw [List.map_map] at z
    exact z
  · unfold XT.mke at e
    split at e
    · rename_i f fs hl
      cases e
      have m := look1_mem hl
      have q := h2 _ m
      unfold iniXB at q
      simp only [Bool.and_eq_true, decide_eq_true_eq] at q
      obtain ⟨fd, ps, k1, k2⟩ := hi _ _ _ m
      exact ⟨oexB_ok q.1, nm _ (w2 _ m), _, fd, ps, q.2.1, q.2.2.1, k1, k2⟩
    · split at e
      · rename_i hm
        cases e
        have q := h1 _ hm
        unfold ownXB at q
        simp only [Bool.and_eq_true, decide_eq_true_eq] at q
        exact ⟨q.1, q.2.1, q.2.2.1, q.2.2.2, nm _ (w1 _ hm)⟩
      · cases e
  · unfold XT.subF at e
    split at e
    · rename_i hy
      have m := look1_mem e
      have q := h4 _ m
      have q2 := of_decide_eq_true q.2
      subst hy
      exact ⟨exCB_ok q.1, .inr ⟨hv (fun z => by rw [z] at m; cases m), _, PyProof.Rows.Boot.«ValueError», by decide, q2⟩⟩
    · have m := look2_mem e
      have q := h3 _ m
      exact ⟨exCB_ok q.1, .inl ⟨nm _ (w3 _ m), of_decide_eq_true q.2⟩⟩
  · have m := look2_mem e
    exact ⟨nm _ (w4 _ m), of_decide_eq_true (h5 _ m)⟩
  · have q := h6 _ (of_decide_eq_true e)
    exact ⟨exCB_ok q.1, of_decide_eq_true q.2⟩
  · have q := j1 _ hc
    exact ⟨He.cls_ok q.1, He.mkr_ok q.2⟩
  · have q := j3 _ (of_decide_eq_true hc)
    exact ⟨He.cls_ok q.1, He.noat_ok q.2⟩
/-- an __init__ of the text -/
theorem ini_fn {P : Program} {w : World} {K : PySem.W.Frag} {mg : Str → Option Value} {base : Heap} {x qual : Str} {params : Arguments} {body : List Stmt} {scope : Scope} {fI : Addr} {fd : FuncData} {t : XT} {c bs self f p : Str} {fs ps : List Str} (F : FunD K x qual params body scope [] [] fI fd)
    (h : t.ok K = true) (hm : (c, f, fs) ∈ t.ini) (hb : exbB K (He.ga K bs) = true) (hmg : mg bs = some (.ref (He.ga K bs))) (Sc : FnScope (self :: p :: ps) (self :: p :: ps) scope) (hg : scope.names.lookup bs = some .globalImplicit) (hdb : (bs == ("__debug__" : Str)) = false)
    (hbd : iniBody bs self (f :: fs) (p :: ps) body = true) (hv : ((self :: p :: ps).all fun x => decide (scope.names.lookup x = some .local) && (!(x == ("__debug__" : Str)) && !(x == ("__classdict__" : Str)))) = true) (hl : fs.length ≤ 800) (hle : fs.length = ps.length) (hbi : L2.Binds K fd (self :: p :: ps) []) :
    ∃ fd ps, FnOk P w K mg base (L2.CX P w) 1 fI fd ps (spIni K (He.ga K c) (f :: fs)) ∧ L2.Binds K fd ps [] := by
  unfold XT.ok at h
  simp only [Bool.and_eq_true, List.all_eq_true] at h
  have q := h.2.2.1 _ hm
  unfold iniXB at q
  simp only [Bool.and_eq_true, decide_eq_true_eq, List.all_eq_true] at q
  refine ⟨fd, _, fn_ini F Sc (oexB_ok q.1) (exbB_ok hb) hg hmg hdb hbd (fun x hx => ?_) (fun x hx => q.2.2.2 x hx) hl hle, hbi⟩
  have := List.all_eq_true.mp hv x hx
  simp only [Bool.and_eq_true, decide_eq_true_eq, Bool.not_eq_true'] at this
  exact this
theorem glob_start {t : XT} {con : Str → Option D} {P : Program} {w : World} {K : PySem.W.Frag} {mg : Str → Option Value} {base : Heap} (s : t.Says P w K mg base) (hc : ∀ x d, con x = some d → ∃ v u, mg x = some u ∧ L2.RelV v u ∧ ∀ Hd, RelD K Hd v d) (hb : ∀ x ∈ blts, mg x = none) :
    Glob (t.gt con) (isXv K) P w K mg base 2 :=
  ⟨Nat.le_refl _, rfl, fun c F h => (nomatch (show (none : Option _) = some F from h)), fun c m F h => (nomatch (show (none : Option _) = some F from h)), s.cfl, s.tix, s.mke, s.sub, s.exm, s.fld, hc, hb, fun x F h => (nomatch (show (none : Option _) = some F from h)), fun x F h => (nomatch (show (none : Option _) = some F from h))⟩
/-! ### the head's look: the statics, too -/
abbrev AlY : Type := He.AlD × Bool
def frY (n : Nat) (g : Addr → Option Obj) : PySem.W.Frag := He.frT g (cStatics :: He.asD g n)
def obsY (n : Nat) (fa : List He.Fa) (fn : List He.DefD) (exf : PySem.W.Frag → Bool) (g : Addr → Option Obj) : AlY := (He.obsD fa fn (frY n g), exf (frY n g))
def hookY (n : Nat) (fa : List He.Fa) (fn : List He.DefD) (exf : PySem.W.Frag → Bool) : PySem.W.Hook where
  α := AlY
  obs := fun s => obsY n fa fn exf s.heap.get?
  val := fun _ => (He.valD fn, true)
  says := fun _ h => ∃ K : PySem.W.Frag, K.In h ∧ (He.SaysD fa fn K ∧ exf K = true)
  of := fun _ _ e => ⟨_, He.frT_in, congrArg (fun z : AlY => z.1) e, congrArg (fun z : AlY => z.2) e⟩
  keeps := fun _ _ _ ⟨K, hK, c⟩ k => ⟨K, PySem.W.Frag.In.keeps hK k, c⟩
theorem obsY_eq {n : Nat} {fa : List He.Fa} {fn : List He.DefD} {exf : PySem.W.Frag → Bool} {g : Addr → Option Obj} {s : Shared} (h : ∀ a, g a = s.heap.get? a) : obsY n fa fn exf g = (hookY n fa fn exf).obs s := by
  have e : g = s.heap.get? := funext h
  rw [e] <;> rfl
end Ev
set_option Elab.async false
set_option linter.all false
set_option maxRecDepth 100000
set_option maxHeartbeats 1000000
namespace Ev
open PySem PySem.Spec PyProof.Rows L2
/-! ### loops, for the plain laws -/
/-- a loop that ends at the first item of a kind -/
theorem forRun_first {b : Ro → Store → O} {t : T} {st : Store} {p : D → Bool} {Fr : Ro → Prop} {Fin : D → O → Prop} (hF : ∀ x o, Fin x o → ∀ f, o.turn f = o) : ∀ (xs : List D) (ro : Ro),
    (∀ x ∈ xs, ∀ ro, Fr ro → ∃ ro1, asgT t x ro = some ro1 ∧ ((p x = true ∧ Fin x (b ro1 st)) ∨ (p x = false ∧ ∃ ro2, b ro1 st = .nx ro2 st ∧ Fr ro2))) → Fr ro →
    (∃ x, xs.find? p = some x ∧ Fin x (forRun b t xs ro st)) ∨ (xs.find? p = none ∧ ∃ ro', forRun b t xs ro st = .nx ro' st ∧ Fr ro')
  | [], ro, _, hr => .inr ⟨rfl, ro, rfl, hr⟩
  | x :: xs, ro, hb, hr => by
    obtain ⟨ro1, h1, h2⟩ := hb x (by simp) ro hr
    rcases h2 with ⟨h2, h3⟩ | ⟨h2, ro2, h3, h4⟩
    · refine .inl ⟨x, by rw [List.find?_cons, h2], ?_⟩
      simp only [forRun, h1]
      rw [hF x _ h3]
      exact h3
    · have ih := forRun_first (b := b) (t := t) (st := st) (p := p) hF xs ro2 (fun y hy => hb y (by simp [hy])) h4
      simp only [forRun, h1, h3, turn_nx, List.find?_cons, h2]
      exact ih
/-- a loop that goes on, each turn changing what J tells -/
theorem forRun_all {b : Ro → Store → O} {t : T} {J : Nat → Ro → Store → Prop} : ∀ (xs : List D) (k : Nat) (ro : Ro) (st : Store),
    (∀ i x, xs[i]? = some x → ∀ ro st, J (k + i) ro st → ∃ ro1 ro2 st2, asgT t x ro = some ro1 ∧ (b ro1 st = .nx ro2 st2 ∨ b ro1 st = .cnt ro2 st2) ∧ J (k + i + 1) ro2 st2) → J k ro st →
    ∃ ro' st', forRun b t xs ro st = .nx ro' st' ∧ J (k + xs.length) ro' st'
  | [], k, ro, st, _, hj => ⟨ro, st, rfl, hj⟩
  | x :: xs, k, ro, st, hb, hj => by
    obtain ⟨ro1, ro2, st2, h1, h2, h3⟩ := hb 0 x rfl ro st hj
    obtain ⟨ro', st', h4, h5⟩ := forRun_all (b := b) (t := t) (J := J) xs (k + 1) ro2 st2 (fun i y hy ro st hj => by
      have := hb (i + 1) y (by simpa using hy) ro st (by rw [show k + (i + 1) = k + 1 + i by omega]; exact hj)
      rw [show k + (i + 1) = k + 1 + i by omega] at this
      exact this) h3
    refine ⟨ro', st', ?_, by rw [List.length_cons, show k + (xs.length + 1) = k + 1 + xs.length by omega]; exact h5⟩
    rcases h2 with h2 | h2
    · simp only [forRun, h1, h2, turn_nx]; exact h4
    · simp only [forRun, h1, h2, turn_cnt]; exact h4
section
variable {G : Gt} {ro : Ro} {st : Store}
theorem ev_callP2 {f : Str} {F : List D → Option (Except Xv D)} (hf : G.fp f = some F) {a b : M} {x y r : D} (ha : ev G a ro st = .ok (.d x) st) (hb : ev G b ro st = .ok (.d y) st) (h : F [x, y] = some (.ok r)) : ev G (.callP f (.cons a (.cons b .nil))) ro st = .ok (.d r) st := by
  simp only [ev_callP hf, evs_cons, ha, R.bind_ok, hb, evs_nil, keepAll_d, keepAll_nil, h, okE_ok]
theorem ev_callP1x {f : Str} {F : List D → Option (Except Xv D)} (hf : G.fp f = some F) {a : M} {x : D} {e : Xv} (ha : ev G a ro st = .ok (.d x) st) (h : F [x] = some (.error e)) : ev G (.callP f (.cons a .nil)) ro st = .exc e st := by
  rw [ev_callP hf, evs_cons, ha, R.bind_ok, evs_nil, R.bind_ok, R.bind_ok, keepAll_d, keepAll_nil, R.bind_ok, R.bind_ok, h, okE_err]
theorem ev_callP2x {f : Str} {F : List D → Option (Except Xv D)} (hf : G.fp f = some F) {a b : M} {x y : D} {e : Xv} (ha : ev G a ro st = .ok (.d x) st) (hb : ev G b ro st = .ok (.d y) st) (h : F [x, y] = some (.error e)) : ev G (.callP f (.cons a (.cons b .nil))) ro st = .exc e st := by
  simp only [ev_callP hf, evs_cons, ha, R.bind_ok, hb, evs_nil, keepAll_d, keepAll_nil, h, okE_err]
theorem ex_raise {c : Str} {es : Ms} {k : Mk} {ds : List D} {ks : List Str} {xs : List D} (hk : G.mke c = some k) (he : evs G es ro st = .ok (ds.map W.d) st) (hm : mkD c k ds = some (.exv c ks xs)) : ex G (.raise_ c es) ro st = .exc ⟨c, ks, xs⟩ ro st := by
  have kA : ∀ ds : List D, keepAll (ds.map W.d) st = .ok ds st := fun ds => by
    induction ds with
    | nil => rfl
    | cons d ds ih => rw [List.map_cons, keepAll_d, ih, R.bind_ok]
  simp only [ex, hk, he, R.o_ok, kA, hm, flyD]
end
@[simp] theorem tryk_nx {G : Gt} {y : Str} {i j : Nat} {ro : Ro} {st : Store} (h : G.exm y y = some true) : O.tryk G y i j (.nx ro st) = .nx ro st := by simp only [O.tryk, if_pos h]
theorem tryk_exc {G : Gt} {y : Str} {i j : Nat} {ro : Ro} {st : Store} {x : Xv} (h : G.exm y y = some true) (h2 : G.exm x.cls y = some true) (hl : i < ro.length ∧ j < ro.length) :
    O.tryk G y i j (.exc x ro st) = .nx (((ro.set i (some (.d (.exv x.cls x.ks x.xs)))).set j (some (.d (.exv x.cls x.ks x.xs)))).set i none) st := by simp only [O.tryk, if_pos h, h2, if_pos hl]
theorem ex_expr {G : Gt} {ro : Ro} {st : Store} (e : M) : ex G (.expr e) ro st = (ev G e ro st).o ro fun _ st1 => .nx ro st1 := by simp only [ex]
theorem ex_tryk {G : Gt} {b : Ss} {y : Str} {i j : Nat} {ro : Ro} {st : Store} : ex G (.tryk b y i j) ro st = O.tryk G y i j (exs G b ro st) := by simp only [ex]
/-! ### repr of what is not great -/
structure Nice (b k : Nat) (d : D) : Prop where
  nod : D.nod d = true
  sh : d.py.showable = true
  lf : d.py.leavesShort 200 = true
  bu : d.py.bulk ≤ b
  dp : d.py.depth ≤ k
theorem Nice.mono {b k b' k' : Nat} {d : D} (h : Nice b k d) (hb : b ≤ b') (hk : k ≤ k') : Nice b' k' d := ⟨h.nod, h.sh, h.lf, Nat.le_trans h.bu hb, Nat.le_trans h.dp hk⟩
theorem nice_non : Nice 0 0 .non := ⟨rfl, rfl, rfl, Nat.le_refl _, Nat.le_refl _⟩
theorem nice_bl (b : Bool) : Nice 0 0 (.bl b) := ⟨rfl, rfl, rfl, Nat.le_refl _, Nat.le_refl _⟩
theorem nice_int {i : Int} (h : i.natAbs < 10 ^ 100) : Nice 0 0 (.int i) := by
  refine ⟨rfl, ?_, ?_, Nat.le_refl _, Nat.le_refl _⟩
  · show decide (i.natAbs.log2 < 1920) = true
    exact decide_eq_true (Nat.lt_trans (log2_lt (k := 400) (Nat.lt_trans h (by decide +kernel)) (by decide)) (by decide))
  · show decide ((Str.ofString (toString i)).length ≤ 200) = true
    rw [PySem.ofString_length]
    exact decide_eq_true (Nat.le_trans (int_text_length_le10 (k := 100) (by decide) h) (by decide))
theorem nice_str {s : Str} {n : Nat} (h : s.length ≤ n) (hc : ∀ c ∈ s.cps.toList, c < 16 ^ 8) : Nice n 0 (.str s) := by
  refine ⟨rfl, rfl, ?_, h, Nat.le_refl _⟩
  show (s.cps.toList.all fun c => decide (c < 16 ^ 8)) = true
  rw [List.all_eq_true]
  exact fun c hc' => decide_eq_true (hc c hc')
theorem nice_alls {b k : Nat} : ∀ ds : List D, (∀ d ∈ ds, Nice b k d) → D.nods ds = true ∧ PyData.showableAll (D.pys ds) = true ∧ PyData.leavesShortAll 200 (D.pys ds) = true ∧ PyData.bulkAll (D.pys ds) ≤ ds.length * (b + 1) ∧ PyData.depthAll (D.pys ds) ≤ k
  | [], _ => ⟨rfl, rfl, rfl, by simp [PyData.bulkAll, D.pys], by simp [PyData.depthAll, D.pys]⟩
  | d :: ds, h => by
    have a := h d (by simp)
    obtain ⟨b1, b2, b3, b4, b5⟩ := nice_alls ds fun x hx => h x (by simp [hx])
    refine ⟨?_, ?_, ?_, ?_, ?_⟩
    · rw [D.nods, a.nod, b1]; rfl
    · show (d.py.showable && PyData.showableAll (D.pys ds)) = true
      rw [a.sh, b2]; rfl
    · show (d.py.leavesShort 200 && PyData.leavesShortAll 200 (D.pys ds)) = true
      rw [a.lf, b3]; rfl
    · show d.py.bulk + 1 + PyData.bulkAll (D.pys ds) ≤ _
      have := a.bu
      rw [List.length_cons, Nat.succ_mul]
      omega
    · show max d.py.depth (PyData.depthAll (D.pys ds)) ≤ k
      exact Nat.max_le.mpr ⟨a.dp, b5⟩
theorem nice_lst {b k n : Nat} {ds : List D} (h : ∀ d ∈ ds, Nice b k d) (hl : ds.length ≤ n) : Nice (n * (b + 1)) (k + 1) (.lst ds) := by
  obtain ⟨b1, b2, b3, b4, b5⟩ := nice_alls ds h
  exact ⟨b1, b2, b3, Nat.le_trans b4 (Nat.mul_le_mul_right _ hl), Nat.succ_le_succ b5⟩
theorem nice_tup {b k n : Nat} {ds : List D} (h : ∀ d ∈ ds, Nice b k d) (hl : ds.length ≤ n) : Nice (n * (b + 1)) (k + 1) (.tup ds) := by
  obtain ⟨b1, b2, b3, b4, b5⟩ := nice_alls ds h
  exact ⟨b1, b2, b3, Nat.le_trans b4 (Nat.mul_le_mul_right _ hl), Nat.succ_le_succ b5⟩
theorem repr_nice {d : D} (h : Nice 4000 50 d) : biD .repr [d] = some (.str d.py.shown) := by
  refine if_pos ⟨h.nod, h.sh, ?_, Nat.le_trans h.dp (by decide)⟩
  have := PyData.shown_le_bulk 200 (by decide) d.py h.lf
  have hb := h.bu
  rw [sizeLine_eq]
  omega
theorem ev_repr {G : Gt} {ro : Ro} {st : Store} {a : M} {x : D} (ha : ev G a ro st = .ok (.d x) st) (h : Nice 4000 50 x) : ev G (.bi .repr (.cons a .nil)) ro st = .ok (.d (.str x.py.shown)) st := ev_bi1 ha (repr_nice h)
/-- repr(a) != repr(b) of the same -/
theorem ev_reprNe {G : Gt} {ro : Ro} {st : Store} {a b : M} {x : D} (ha : ev G a ro st = .ok (.d x) st) (hb : ev G b ro st = .ok (.d x) st) (h : Nice 4000 50 x) :
    ev G (.cmp .NotEq (.bi .repr (.cons a .nil)) (.bi .repr (.cons b .nil))) ro st = .ok (.d (.bl false)) st :=
  ev_cmp_d (ev_repr ha h) (ev_repr hb h) (by rw [cmp_neS]; simp)
theorem ev_reprEq {G : Gt} {ro : Ro} {st : Store} {a b : M} {x : D} (ha : ev G a ro st = .ok (.d x) st) (hb : ev G b ro st = .ok (.d x) st) (h : Nice 4000 50 x) :
    ev G (.cmp .Eq (.bi .repr (.cons a .nil)) (.bi .repr (.cons b .nil))) ro st = .ok (.d (.bl true)) st :=
  ev_cmp_d (ev_repr ha h) (ev_repr hb h) (by rw [cmp_eqS]; simp)
/-- a == b of the same -/
theorem ev_eqSelf {G : Gt} {ro : Ro} {st : Store} {a b : M} {x : D} (ha : ev G a ro st = .ok (.d x) st) (hb : ev G b ro st = .ok (.d x) st) (h : D.nod x = true) (k : D.dep x ≤ 60) :
    ev G (.cmp .Eq a b) ro st = .ok (.d (.bl true)) st := ev_cmp_d ha hb (eqD_self x h k)
theorem evs_len {G : Gt} {ro : Ro} {st : Store} : True := trivial
end Ev
set_option Elab.async false
set_option linter.all false
set_option maxRecDepth 100000
set_option maxHeartbeats 1000000
namespace Ev
open PySem PySem.Spec PyProof.Rows L2
/-! ### the laws' own drawing of digits -/
def mixedB : Ss := (.cons (.set 2 (.bin .Add (.bin .Add (.bin .Mod (.var 0) (.sub (.lst (.cons (.int 1000000007) (.cons (.int 998244353) (.cons (.int 2147483629) (.cons (.int 1000000009) .nil))))) (.bin .Mod (.var 1) (.int 4)))) (.bin .Mult (.int 7919) (.var 1))) (.int 13))) (.cons (.ret (.bin .Mod (.bin .Mult (.bin .Mod (.bin .Mult (.var 2) (.var 2)) (.int 2147483647)) (.int 48271)) (.int 2147483647))) .nil))
def mixedF (G : Gt) : List D → Option (Except Xv D) := runP G 3 2 mixedB
theorem mixed_ok (Gm : Gt) (c k : Int) (hk : -(2 ^ 64) < k ∧ k < 2 ^ 64) : ∃ m : Int, mixedF Gm [.int c, .int k] = some (.ok (.int m)) ∧ 0 ≤ m ∧ m < 2147483647 := by
  have s1 : Sm 7919 := sm_of (by omega)
  have s2 : Sm k := sm_of (by omega)
  have s3 : Sm 48271 := sm_of (by omega)
  have h4 : ∃ q : Int, L2.atI [D.int 1000000007, D.int 998244353, D.int 2147483629, D.int 1000000009] (k % 4) = some (.int q) ∧ 0 < q ∧ q < 2 ^ 32 := by
    have h4 : k % 4 = 0 ∨ k % 4 = 1 ∨ k % 4 = 2 ∨ k % 4 = 3 := by omega
    rcases h4 with h | h | h | h <;> rw [h]
    · exact ⟨1000000007, rfl, by decide, by decide⟩
    · exact ⟨998244353, rfl, by decide, by decide⟩
    · exact ⟨2147483629, rfl, by decide, by decide⟩
    · exact ⟨1000000009, rfl, by decide, by decide⟩
  obtain ⟨q, hq, q1, q2⟩ := h4
  have m0 := Int.emod_nonneg c (Int.ne_of_gt q1)
  have m1 := Int.emod_lt_of_pos c q1
  have n1 : Sm (c % q + 7919 * k + 13) := sm_of (by omega)
  have e0 := Int.emod_nonneg ((c % q + 7919 * k + 13) * (c % q + 7919 * k + 13)) (b := 2147483647) (by decide)
  have e1 := Int.emod_lt_of_pos ((c % q + 7919 * k + 13) * (c % q + 7919 * k + 13)) (b := 2147483647) (by decide)
  have n2 : Sm ((c % q + 7919 * k + 13) * (c % q + 7919 * k + 13) % 2147483647) := sm_of (by omega)
  refine ⟨(c % q + 7919 * k + 13) * (c % q + 7919 * k + 13) % 2147483647 * 48271 % 2147483647, ?_, Int.emod_nonneg _ (by decide), Int.emod_lt_of_pos _ (by decide)⟩
  have x4 : ixD (.lst [D.int 1000000007, D.int 998244353, D.int 2147483629, D.int 1000000009]) (.int (k % 4)) = some (.int q) := hq
  simp [mixedF, runP, mixedB, ini, exs, ex, ev, evs, setRo, bin_mod, bin_mul, x4, q1, s1, s2, s3, n1, n2]
def drawB : Ss := (.cons (.ret (.dic ["left", "cell", "turns"] (.cons (.ite (.cmp .GtE (.var 0) (.bin .Pow (.int 10) (.int 18))) (.var 0) (.int 0)) (.cons (.var 0) (.cons (.bin .Mult (.int 1000) (.var 1)) .nil))))) .nil)
def drawF (G : Gt) : List W → Store → R W := runS G 2 2 drawB
theorem draw_ok (Gd : Gt) (c k : Int) (hk : -(2 ^ 64) < k ∧ k < 2 ^ 64) (st : Store) : drawF Gd [.d (.int c), .d (.int k)] st = .ok (.cell st.length) (st ++ [drc (if 10 ^ 18 ≤ c then c else 0) c (1000 * k)]) := by
  have s1 : Sm 1000 := sm_of (by omega)
  have s2 : Sm k := sm_of (by omega)
  have p := bin_pow 10 18 (by decide) (by decide)
  have p' : binD .Pow (.int 10) (.int 18) = some (.int (10 ^ 18)) := p
  by_cases h : (1000000000000000000 : Int) ≤ c <;>
  simp [drawF, runS, drawB, ini, exs, ex, ev, evs, bin_mul, s1, s2, p', h, drc]
def dbody : Ss := (.cons (.dput (.var 0) (.str "turns") (.bin .Add (.dget (.var 0) (.str "turns")) (.int 1))) (.cons (.dput (.var 0) (.str "left") (.bin .Add (.bin .Mult (.dget (.var 0) (.str "left")) (.int 2147483647)) (.callP "_law_mixed" (.cons (.dget (.var 0) (.str "cell")) (.cons (.dget (.var 0) (.str "turns")) .nil))))) .nil))
theorem dbody_ok {G Gm : Gt} (hG : G.fp "_law_mixed" = some (mixedF Gm)) {ro : Ro} {st : Store} {n : Nat} {l c t : Int} (h0 : ro[0]? = some (some (.cell n))) (h : st[n]? = some (drc l c t)) (hl : 0 ≤ l ∧ l < 2 ^ 200) (ht : 0 ≤ t ∧ t < 2 ^ 60) :
    ∃ l' : Int, exs G dbody ro st = .nx ro ((st.set n (drc l c (t + 1))).set n (drc l' c (t + 1))) ∧ 0 ≤ l' ∧ l' < l * 2147483647 + 2147483647 := by
  obtain ⟨m, hm, m0, m1⟩ := mixed_ok Gm c (t + 1) (by omega)
  have s1 : Sm l := sm_of (by omega)
  have s2 : Sm 2147483647 := sm_of (by omega)
  have h1 := set_at (b := drc l c (t + 1)) h
  refine ⟨l * 2147483647 + m, ?_, by omega, by omega⟩
  unfold dbody
  simp only [exs]
  rw [put_turns h (x := t + 1) (by simp only [ev, h0]) (by simp [ev, h0, dr_turns h])]
  simp only [O.then_nx]
  rw [put_left h1 (x := l * 2147483647 + m) (by simp only [ev, h0]) (by simp [ev, evs, h0, dr_turns h1, dr_left h1, dr_cell h1, bin_mul, s1, s2, hG, hm])]
  simp only [O.then_nx]
theorem dloop_ok {G Gm : Gt} (hG : G.fp "_law_mixed" = some (mixedF Gm)) {n : Nat} {c : Int} : ∀ (xs : List D) (ro : Ro) (st : Store) (l t : Int), ro[0]? = some (some (.cell n)) → ro.length = 4 → st[n]? = some (drc l c t) → 0 ≤ l → (l + 1) * 2 ^ (31 * xs.length) ≤ 2 ^ 190 → 0 ≤ t → t + xs.length < 2 ^ 60 →
    ∃ ro' st' l', forRun (exs G dbody) (.nm 2) xs ro st = .nx ro' st' ∧ ro'[0]? = ro[0]? ∧ ro'[1]? = ro[1]? ∧ ro'.length = 4 ∧ st'[n]? = some (drc l' c (t + xs.length)) ∧ 0 ≤ l' ∧ Oth n st st'
  | [], ro, st, l, t, h0, hr, h, hl, hb, ht, htb => ⟨ro, st, l, rfl, rfl, rfl, hr, by simpa using h, hl, Oth.refl⟩
  | x :: xs, ro, st, l, t, h0, hr, h, hl, hb, ht, htb => by
    have hp : (1 : Int) ≤ 2 ^ (31 * xs.length) := by
      have : 0 < (2 : Int) ^ (31 * xs.length) := Int.pow_pos (by decide)
      omega
    have hx : (2 : Int) ^ (31 * (x :: xs).length) = 2 ^ 31 * 2 ^ (31 * xs.length) := by
      rw [List.length_cons, Nat.mul_succ, Nat.add_comm, Int.pow_add]
    rw [hx] at hb
    have hl2 : l < 2 ^ 200 := by
      have : (l + 1) * 1 ≤ (l + 1) * (2 ^ 31 * 2 ^ (31 * xs.length)) := Int.mul_le_mul_of_nonneg_left (by omega) (by omega)
      omega
    have htb' : t + (xs.length : Int) + 1 < 2 ^ 60 := by
      have : ((x :: xs).length : Int) = xs.length + 1 := by simp
      omega
    obtain ⟨l', hd, d0, d1⟩ := dbody_ok hG (ro := ro.set 2 (some (.d x))) (l := l) (t := t) (by rw [List.getElem?_set_ne (by decide)]; exact h0) h ⟨hl, hl2⟩ ⟨ht, by omega⟩
    have hs := set_at (b := drc l' c (t + 1)) (set_at (b := drc l c (t + 1)) h)
    have hb' : (l' + 1) * 2 ^ (31 * xs.length) ≤ 2 ^ 190 := by
      refine Int.le_trans ?_ hb
      rw [← Int.mul_assoc]
      exact Int.mul_le_mul_of_nonneg_right (by omega) (by omega)
    obtain ⟨ro', st', l2, e, r0, r1, rl, h2, h3, h4⟩ := dloop_ok hG xs (ro.set 2 (some (.d x))) _ l' (t + 1) (by rw [List.getElem?_set_ne (by decide)]; exact h0) (by simpa using hr) hs d0 hb' (by omega) (by omega)
    refine ⟨ro', st', l2, ?_, ?_, ?_, rl, ?_, h3, Oth.trans (Oth.trans Oth.set Oth.set) h4⟩
    · have ha : asgT (.nm 2) x ro = some (ro.set 2 (some (.d x))) := by simp [asgT, hr]
      simp only [forRun, ha, hd, turn_nx, e]
    · rw [r0, List.getElem?_set_ne (by decide)]
    · rw [r1, List.getElem?_set_ne (by decide)]
    · rw [h2]
      congr 2
      simp
      omega
def digitB : Ss := (.cons (.iff (.cmp .Eq (.dget (.var 0) (.str "left")) (.int 0)) (.cons (.for_ (.nm 2) (.rng1 (.int 4)) dbody) .nil) .nil) (.cons (.set 3 (.bin .Mod (.dget (.var 0) (.str "left")) (.var 1))) (.cons (.dput (.var 0) (.str "left") (.bin .FloorDiv (.dget (.var 0) (.str "left")) (.var 1))) (.cons (.ret (.var 3)) .nil))))
def digitF (G : Gt) : List W → Store → R W := runS G 4 2 digitB
theorem digit_ok {G Gm : Gt} (hG : G.fp "_law_mixed" = some (mixedF Gm)) {st : Store} {n : Nat} {T : Int} (many : Int) (h : Drw st n T) (hm : 0 < many ∧ many < 2 ^ 60) (hT : T < 2 ^ 50) :
    ∃ d st', digitF G [.cell n, .d (.int many)] st = .ok (.d (.int d)) st' ∧ 0 ≤ d ∧ d < many ∧ Drw st' n (T + 4) ∧ Oth n st st' := by
  obtain ⟨l, c, t, h, hl, ht, hT'⟩ := h
  have tail : ∀ (ro : Ro) (st : Store) (l t : Int), ro[0]? = some (some (.cell n)) → ro[1]? = some (some (.d (.int many))) → ro.length = 4 → st[n]? = some (drc l c t) → 0 ≤ l → exs G (.cons (.set 3 (.bin .Mod (.dget (.var 0) (.str "left")) (.var 1))) (.cons (.dput (.var 0) (.str "left") (.bin .FloorDiv (.dget (.var 0) (.str "left")) (.var 1))) (.cons (.ret (.var 3)) .nil))) ro st =
      .ret (.d (.int (l % many))) (st.set n (drc (l / many) c t)) := by
    intro ro st l t h0 h1 hr h hl
    have e0 : (ro.set 3 (some (W.d (.int (l % many)))))[0]? = some (some (.cell n)) := by rw [List.getElem?_set_ne (by decide)]; exact h0
    have e1 : (ro.set 3 (some (W.d (.int (l % many)))))[1]? = some (some (.d (.int many))) := by rw [List.getElem?_set_ne (by decide)]; exact h1
    have e3 : (ro.set 3 (some (W.d (.int (l % many)))))[3]? = some (some (W.d (.int (l % many)))) := by rw [List.getElem?_set_self (by omega)]
    have s : ex G (.set 3 (.bin .Mod (.dget (.var 0) (.str "left")) (.var 1))) ro st = .nx (ro.set 3 (some (W.d (.int (l % many))))) st := by
      rw [ex_set, ev_bin, ev_dget, ev_var h0, R.bind_ok, ev_str, R.bind_ok, dr_left h, okD_some, R.bind_ok, ev_var h1, R.bind_ok, opt2_dd, bin_mod _ _ hm.1, okD_some, R.o_ok, setRo_ok' (by omega)]
    simp only [exs]
    rw [s, O.then_nx, put_left h (x := l / many) (by simp only [ev, e0]) (by rw [ev_bin, ev_dget, ev_var e0, R.bind_ok, ev_str, R.bind_ok, dr_left h, okD_some, R.bind_ok, ev_var e1, R.bind_ok, opt2_dd, bin_fdiv _ _ hm.1 (by omega), okD_some])]
    rw [O.then_nx, ex_ret, ev_var e3, R.o_ok, then_ret]
  unfold digitF runS
  rw [if_pos (show [W.cell n, W.d (D.int many)].length = 2 from rfl)]
  have b : digitB = .cons (.iff (.cmp .Eq (.dget (.var 0) (.str "left")) (.int 0)) (.cons (.for_ (.nm 2) (.rng1 (.int 4)) dbody) .nil) .nil) (.cons (.set 3 (.bin .Mod (.dget (.var 0) (.str "left")) (.var 1))) (.cons (.dput (.var 0) (.str "left") (.bin .FloorDiv (.dget (.var 0) (.str "left")) (.var 1))) (.cons (.ret (.var 3)) .nil))) := rfl
  rw [b]
  have i0 : ini 4 [.cell n, .d (.int many)] = [some (.cell n), some (.d (.int many)), none, none] := rfl
  rw [i0, exs]
  by_cases z : l = 0
  · subst z
    have c0 : ev G (.cmp .Eq (.dget (.var 0) (.str "left")) (.int 0)) [some (.cell n), some (.d (.int many)), none, none] st = .ok (.d (.bl true)) st := by
      simp [ev, dr_left h]
    obtain ⟨ro', st', l2, e, r0, r1, rl, h2, h3, h4⟩ := dloop_ok hG (n := n) (c := c) (Ev.intsFrom 0 4) [some (.cell n), some (.d (.int many)), none, none] st 0 t rfl rfl h (by decide) (by decide) ht (by show t + ((4 : Nat) : Int) < _; omega)
    have q := tail ro' st' l2 (t + 4) (r0.trans rfl) (r1.trans rfl) rl h2 h3
    refine ⟨l2 % many, st'.set n (drc (l2 / many) c (t + 4)), ?_, Int.emod_nonneg _ (by omega), Int.emod_lt_of_pos _ hm.1, ⟨_, c, t + 4, set_at h2, Int.ediv_nonneg h3 (by omega), by omega, by omega⟩, h4.trans Oth.set⟩
    have fr : ex G (.for_ (.nm 2) (.rng1 (.int 4)) dbody) [some (.cell n), some (.d (.int many)), none, none] st = .nx ro' st' := by
      have ei : evi G (.rng1 (.int 4)) [some (.cell n), some (.d (.int many)), none, none] st = .ok (Ev.intsFrom 0 4) st := by simp [evi, ev]
      rw [ex, ei, R.o_ok, e]
    rw [ex, c0, to_bl]
    simp only [if_true]
    rw [exs, fr, O.then_nx, exs, O.then_nx, q, outS_ret]
  · have c0 : ev G (.cmp .Eq (.dget (.var 0) (.str "left")) (.int 0)) [some (.cell n), some (.d (.int many)), none, none] st = .ok (.d (.bl false)) st := by
      simp [ev, dr_left h, z]
    have q := tail [some (.cell n), some (.d (.int many)), none, none] st l t rfl rfl rfl h hl
    refine ⟨l % many, st.set n (drc (l / many) c t), ?_, Int.emod_nonneg _ (by omega), Int.emod_lt_of_pos _ hm.1, ⟨_, c, t, set_at h, Int.ediv_nonneg hl (by omega), ht, by omega⟩, Oth.set⟩
    rw [ex, c0, to_bl]
    simp only [Bool.false_eq_true, if_false]
    rw [exs, O.then_nx, q, outS_ret]

/-! ### comprehensions that change the store -/
theorem lcRun_all {fe : Ro → Store → R W} {t : T} {ro : Ro} {J : Nat → Store → List D → Prop} : ∀ (xs : List D) (k : Nat) (st : Store) (acc : List D),
    (∀ i x, xs[i]? = some x → ∀ st acc, J (k + i) st acc → ∃ ro1 d st2, asgT t x ro = some ro1 ∧ fe ro1 st = .ok (.d d) st2 ∧ J (k + i + 1) st2 (acc ++ [d])) → J k st acc →
    ∃ ds st', lcRun (fun _ st => .ok (.d (.bl true)) st) fe t ro xs st acc = .ok ds st' ∧ J (k + xs.length) st' ds
  | [], k, st, acc, _, hj => ⟨acc, st, rfl, hj⟩
  | x :: xs, k, st, acc, hb, hj => by
    obtain ⟨ro1, d, st2, h1, h2, h3⟩ := hb 0 x rfl st acc hj
    obtain ⟨ds, st', h4, h5⟩ := lcRun_all (fe := fe) (t := t) (ro := ro) (J := J) xs (k + 1) st2 (acc ++ [d]) (fun i y hy st acc hj => by
      have := hb (i + 1) y (by simpa using hy) st acc (by rw [show k + (i + 1) = k + 1 + i by omega]; exact hj)
      rw [show k + (i + 1) = k + 1 + i by omega] at this
      exact this) h3
    refine ⟨ds, st', ?_, by rw [List.length_cons, show k + (xs.length + 1) = k + 1 + xs.length by omega]; exact h5⟩
    simp only [lcRun, h1, tst_bl, if_true, h2, R.bind_ok, keepD_d]
    exact h4
theorem ev_lcS {G : Gt} {own : List Nat} {t : T} {it : I} {e : M} {ro : Ro} {st st1 : Store} {J : Nat → Store → List D → Prop} {items : List D} (hi : evi G it ro st = .ok items st1) (hl : items.length ≤ 1000000)
    (hb : ∀ i x, items[i]? = some x → ∀ st acc, J i st acc → ∃ ro1 d st2, asgT t x (wipeW ro own) = some ro1 ∧ ev G e ro1 st = .ok (.d d) st2 ∧ J (i + 1) st2 (acc ++ [d])) (hj : J 0 st1 []) :
    ∃ ds st', ev G (.lc own t it (.bl true) e) ro st = .ok (.d (.lst ds)) st' ∧ J items.length st' ds := by
  obtain ⟨ds, st', h1, h2⟩ := lcRun_all (fe := ev G e) (t := t) (ro := wipeW ro own) (J := J) items 0 st1 [] (fun i x hx st acc hj => by
    rw [Nat.zero_add] at hj ⊢
    exact hb i x hx st acc hj) hj
  rw [Nat.zero_add] at h2
  refine ⟨ds, st', ?_, h2⟩
  have : (fun (ro : Ro) (st : Store) => (R.ok (.d (.bl true)) st : R W)) = ev G (.bl true) := by funext ro st; simp only [ev]
  rw [this] at h1
  simp only [ev, hi, R.bind_ok]
  simp only [ev] at h1
  rw [h1]
  simp [hl]
theorem ev_callS2 {G : Gt} {ro : Ro} {st st1 st2 st3 : Store} {f : Str} {F : List W → Store → R W} (hf : G.fs f = some F) {a b : M} {x y w : W} (ha : ev G a ro st = .ok x st1) (hb : ev G b ro st1 = .ok y st2) (h : F [x, y] st2 = .ok w st3) : ev G (.callS f (.cons a (.cons b .nil))) ro st = .ok w st3 := by
  simp only [ev_callS hf, evs_cons, ha, R.bind_ok, hb, evs_nil, h]
/-! ### a law's cells -/
theorem ix_mem {ds : List D} {d : Int} (h0 : 0 ≤ d) (h1 : d < ds.length) : ∃ v, ixD (.lst ds) (.int d) = some v ∧ ds[d.toNat]? = some v ∧ v ∈ ds := by
  have hl : d.toNat < ds.length := by omega
  refine ⟨ds[d.toNat], ?_, List.getElem?_eq_getElem hl, List.getElem_mem hl⟩
  show L2.atI ds d = _
  unfold L2.atI
  have : L2.ixN ds.length d = some d.toNat := by
    unfold L2.ixN
    rw [if_pos h0, if_pos (by omega)]
  rw [this]
  exact List.getElem?_eq_getElem hl
theorem ix_memT {ds : List D} {d : Int} (h0 : 0 ≤ d) (h1 : d < ds.length) : ∃ v, ixD (.tup ds) (.int d) = some v ∧ ds[d.toNat]? = some v ∧ v ∈ ds := ix_mem h0 h1
/-- a digit -/
theorem ev_digit {G Gd Gm : Gt} (hf : G.fs "_law_digit" = some (digitF Gd)) (hm : Gd.fp "_law_mixed" = some (mixedF Gm)) {ro : Ro} {st : Store} {i n : Nat} {T many : Int} {m : M} (h : ro[i]? = some (some (.cell n))) (he : ev G m ro st = .ok (.d (.int many)) st) (hd : Drw st n T) (hm2 : 0 < many ∧ many < 2 ^ 60) (hT : T < 2 ^ 50) :
    ∃ d st', ev G (.callS "_law_digit" (.cons (.var i) (.cons m .nil))) ro st = .ok (.d (.int d)) st' ∧ 0 ≤ d ∧ d < many ∧ Drw st' n (T + 4) ∧ Oth n st st' := by
  obtain ⟨d, st', h1, h2, h3, h4, h5⟩ := digit_ok hm many hd hm2 hT
  exact ⟨d, st', ev_callS2 hf (ev_var h) he h1, h2, h3, h4, h5⟩
theorem drw_new (st : Store) (c k : Int) (hk : 0 ≤ k ∧ k < 64) : Drw (st ++ [drc (if 10 ^ 18 ≤ c then c else 0) c (1000 * k)]) st.length 64000 := by
  refine ⟨if 10 ^ 18 ≤ c then c else 0, c, 1000 * k, by simp, ?_, by omega, by omega⟩
  split
  · rename_i h
    have : (0 : Int) ≤ 10 ^ 18 := by decide
    omega
  · exact Int.le_refl 0
theorem ev_draw {G Gd : Gt} (hf : G.fs "_law_draw" = some (drawF Gd)) {ro : Ro} {st : Store} {i j : Nat} {c k : Int} (h1 : ro[i]? = some (some (.d (.int c)))) (h2 : ro[j]? = some (some (.d (.int k)))) (hk : 0 ≤ k ∧ k < 64) :
    ∃ st1, ev G (.callS "_law_draw" (.cons (.var i) (.cons (.var j) .nil))) ro st = .ok (.cell st.length) st1 ∧ Drw st1 st.length 64000 :=
  ⟨_, ev_callS2 hf (ev_var h1) (ev_var h2) (draw_ok Gd c k (by omega) st), drw_new st c k hk⟩
def cellsM (N : Int) : M := .bin .Add (.slc (.var 0) .absent (.int N)) (.lst (.cons (.bi .sum (.cons (.var 0) .nil)) .nil))
theorem cells_ok {G : Gt} {ro : Ro} {st : Store} {ns : List Int} (N : Int) (hl : ns.length ≤ 63) (h : ro[0]? = some (some (.d (.scr ns)))) : ∃ cs : List Int, cs.length ≤ 64 ∧ ev G (cellsM N) ro st = .ok (.d (.lst (cs.map .int))) st := by
  have v0 : ev G (.var 0) ro st = .ok (.d (.scr ns)) st := ev_var h
  have e1 : ev G (.slc (.var 0) .absent (.int N)) ro st = .ok (.d (.lst ((cutG ns none (some N)).map .int))) st := by
    rw [ev_slc0, v0, R.bind_ok, peek_d]; rfl
  have hc : (cutG ns none (some N)).length ≤ 63 := by
    unfold cutG
    rw [List.length_take, List.length_drop]
    omega
  refine ⟨cutG ns none (some N) ++ [ns.sum], by simp; omega, ?_⟩
  unfold cellsM
  rw [ev_bin_d e1 (ev_lst_d (ds := [.int ns.sum]) (evs_d (ev_bi1 v0 (sum_scr ns)) evs_0) (by simp)) (bin_addL _ _ (by simp; omega)), List.map_append]
  rfl
/-- for k, cell in enumerate(script[:N] + [sum(script)]): .. / return True -/
theorem law_for {G : Gt} {L : Nat} {body : Ss} {N : Int} {ns : List Int} (hl : ns.length ≤ 63) (hL : 3 ≤ L)
    (turn : ∀ (i : Nat) (c : Int) (ro : Ro) (st : Store), i < 64 → ro.length = L → ∃ ro2 st2, exs G body ((ro.set 1 (some (.d (.int i)))).set 2 (some (.d (.int c)))) st = .nx ro2 st2 ∧ ro2.length = L) :
    runP G L 1 (.cons (.for_ (.cons (.nm 1) (.cons (.nm 2) .nil)) (.enm (cellsM N)) body) (.cons (.ret (.bl true)) .nil)) [.scr ns] = some (.ok (.bl true)) := by
  unfold runP
  rw [if_pos (by rfl)]
  have h0 : (ini L ([D.scr ns].map W.d))[0]? = some (some (.d (.scr ns))) := by simp [ini]
  have hlen : (ini L ([D.scr ns].map W.d)).length = L := by simp [ini]; omega
  obtain ⟨cs, hcs, ec⟩ := cells_ok (G := G) (st := []) N hl h0
  have ei : evi G (.enm (cellsM N)) (ini L ([D.scr ns].map W.d)) [] = .ok (enumFrom 0 (cs.map .int)) [] := by
    simp only [evi, ec, R.bind_ok, keepD_d]; rfl
  have at_ : ∀ (cs : List Int) (k i : Nat) (x : D), (enumFrom k (cs.map D.int))[i]? = some x → ∃ c, x = .tup [.int ((k + i : Nat) : Int), .int c] := by
    intro cs
    induction cs with
    | nil => intro k i x h; cases h
    | cons c cs ih =>
      intro k i x h
      cases i with
      | zero => cases h; exact ⟨c, rfl⟩
      | succ i =>
        obtain ⟨c', e⟩ := ih (k + 1) i x (by simpa [enumFrom] using h)
        exact ⟨c', by rw [e, show k + 1 + i = k + (i + 1) by omega]⟩
  obtain ⟨ro', st', h1, h2⟩ := forRun_all (b := exs G body) (t := .cons (.nm 1) (.cons (.nm 2) .nil)) (J := fun k ro _ => ro.length = L) (enumFrom 0 (cs.map .int)) 0 (ini L ([D.scr ns].map W.d)) []
    (fun i x hx ro st hr => by
      obtain ⟨c, rfl⟩ := at_ cs 0 i x hx
      rw [Nat.zero_add]
      have hi : i < 64 := by
        have := (List.getElem?_eq_some_iff.mp hx).1
        rw [enumFrom_len, List.length_map] at this
        omega
      obtain ⟨ro2, st2, k1, k2⟩ := turn i c ro st hi hr
      exact ⟨_, ro2, st2, by simp [asgT, asgTs, show 1 < ro.length by omega, show 2 < ro.length by omega], .inl k1, k2⟩) hlen
  rw [exs_cons, ex_for, ei, R.o_ok, h1, O.then_nx, exs_ret (ex_ret_d (ev_bl true)), outP_ret]
theorem cutG_mem {α : Type} {xs : List α} {lo hi : Option Int} {x : α} (h : x ∈ cutG xs lo hi) : x ∈ xs := by
  unfold cutG at h
  exact List.mem_of_mem_drop (List.mem_of_mem_take h)
theorem cutG_len {α : Type} (xs : List α) (lo hi : Option Int) : (cutG xs lo hi).length ≤ xs.length := by
  unfold cutG
  rw [List.length_take, List.length_drop]
  omega
theorem ev_slcL {G : Gt} {ro : Ro} {st : Store} {a b : M} {ds : List D} {j : Int} (hb : isAbsent b = false) (ha : ev G a ro st = .ok (.d (.tup ds)) st) (hi : ev G b ro st = .ok (.d (.int j)) st) : ev G (.slc a .absent b) ro st = .ok (.d (.tup (cutG ds none (some j)))) st := by
  have p : part b (ev G b ro st) (fun h st3 => okD ((some (D.tup ds)).bind fun x => slD x none h) st3) st = .ok (.d (.tup (cutG ds none (some j)))) st := by
    unfold part
    split
    · cases hb
    · rw [hi, R.bind_ok, peek_d]; rfl
  simp only [ev, ha, R.bind_ok, part, peek_d]
  exact p
theorem ev_slcR {G : Gt} {ro : Ro} {st : Store} {a b : M} {ds : List D} {j : Int} (hb : isAbsent b = false) (ha : ev G a ro st = .ok (.d (.tup ds)) st) (hi : ev G b ro st = .ok (.d (.int j)) st) : ev G (.slc a b .absent) ro st = .ok (.d (.tup (cutG ds (some j) none))) st := by
  have p : part b (ev G b ro st) (fun l st2 => okD ((peek st2 (.d (D.tup ds))).bind fun x => slD x l none) st2) st = .ok (.d (.tup (cutG ds (some j) none))) st := by
    unfold part
    split
    · cases hb
    · rw [hi, R.bind_ok, peek_d]; rfl
  simp only [ev, ha, R.bind_ok, part]
  exact p
theorem bin_addT (a b : List D) (h : a.length + b.length ≤ 1000000) : binD .Add (.tup a) (.tup b) = some (.tup (a ++ b)) :=
  if_pos (Nat.le_trans h (by rw [sizeLine_eq]; decide))
theorem ex_par3_d {G : Gt} {ro : Ro} {st st1 st2 st3 : Store} {i j k : Nat} {a b c : M} {x y z : W} (h1 : ev G a ro st = .ok x st1) (h2 : ev G b ro st1 = .ok y st2) (h3 : ev G c ro st2 = .ok z st3) (hl : i < ro.length ∧ j < ro.length ∧ k < ro.length) :
    ex G (.par3 i j k a b c) ro st = .nx (((ro.set i (some x)).set j (some y)).set k (some z)) st3 := by simp only [ex, h1, h2, h3, R.o_ok, if_pos hl]
theorem ex_par_d {G : Gt} {ro : Ro} {st st1 st2 : Store} {i j : Nat} {a b : M} {x y : W} (h1 : ev G a ro st = .ok x st1) (h2 : ev G b ro st1 = .ok y st2) (hl : i < ro.length ∧ j < ro.length) :
    ex G (.par i j a b) ro st = .nx ((ro.set i (some x)).set j (some y)) st2 := by simp only [ex, h1, h2, R.o_ok, if_pos hl]
theorem nods_of {ds : List D} (h : ∀ d ∈ ds, D.nod d = true) : D.nods ds = true := by rw [nods_all, List.all_eq_true]; exact h
end Ev
set_option linter.all false
set_option maxRecDepth 100000
set_option maxHeartbeats 1000000
namespace Ev
open PySem
/-! ### the law's loop over the cells, with names kept -/
theorem for_cells {G : Gt} {body : Ss} {N : Int} {ns : List Int} {a b : Nat} {J : Ro → Store → Prop} {ro : Ro} {st : Store} (hl : ns.length ≤ 63) (h0 : ro[0]? = some (some (.d (.scr ns)))) (hj : J ro st) (hJ : ∀ ro st, J ro st → a < ro.length ∧ b < ro.length)
    (turn : ∀ (i : Nat) (c : Int) (ro : Ro) (st : Store), i < 64 → J ro st → ∃ ro2 st2, exs G body ((ro.set a (some (.d (.int i)))).set b (some (.d (.int c)))) st = .nx ro2 st2 ∧ J ro2 st2) :
    ∃ ro2 st2, ex G (.for_ (.cons (.nm a) (.cons (.nm b) .nil)) (.enm (cellsM N)) body) ro st = .nx ro2 st2 ∧ J ro2 st2 := by
  obtain ⟨cs, hcs, ec⟩ := cells_ok (G := G) (st := st) N hl h0
  have ei : evi G (.enm (cellsM N)) ro st = .ok (enumFrom 0 (cs.map .int)) st := by
    simp only [evi, ec, R.bind_ok, keepD_d]; rfl
  have at_ : ∀ (cs : List Int) (k i : Nat) (x : D), (enumFrom k (cs.map D.int))[i]? = some x → ∃ c, x = .tup [.int ((k + i : Nat) : Int), .int c] := by
    intro cs
    induction cs with
    | nil => intro k i x h; cases h
    | cons c cs ih =>
      intro k i x h
      cases i with
      | zero => cases h; exact ⟨c, rfl⟩
      | succ i =>
        obtain ⟨c', e⟩ := ih (k + 1) i x (by simpa [enumFrom] using h)
        exact ⟨c', by rw [e, show k + 1 + i = k + (i + 1) by omega]⟩
  obtain ⟨ro', st', h1, h2⟩ := forRun_all (b := exs G body) (t := .cons (.nm a) (.cons (.nm b) .nil)) (J := fun k ro st => J ro st) (enumFrom 0 (cs.map .int)) 0 ro st
    (fun i x hx ro st hr => by
      obtain ⟨c, rfl⟩ := at_ cs 0 i x hx
      rw [Nat.zero_add]
      have hi : i < 64 := by
        have := (List.getElem?_eq_some_iff.mp hx).1
        rw [enumFrom_len, List.length_map] at this
        omega
      obtain ⟨ro2, st2, k1, k2⟩ := turn i c ro st hi hr
      obtain ⟨la, lb⟩ := hJ _ _ hr
      exact ⟨_, ro2, st2, by simp [asgT, asgTs, la, lb], .inl k1, k2⟩) hj
  exact ⟨ro', st', by rw [ex_for, ei, R.o_ok, h1], h2⟩
theorem neD_self {x : D} (h : D.nod x = true) (k : D.dep x ≤ 60) : cmpD .NotEq x x = some false := by
  have := eqD_self x h k
  show (eqD x x).map (!·) = _
  rw [this]; rfl
theorem ev_neSelf {G : Gt} {ro : Ro} {st : Store} {a b : M} {x : D} (ha : ev G a ro st = .ok (.d x) st) (hb : ev G b ro st = .ok (.d x) st) (h : D.nod x = true) (k : D.dep x ≤ 60) :
    ev G (.cmp .NotEq a b) ro st = .ok (.d (.bl false)) st := ev_cmp_d ha hb (neD_self h k)
end Ev
set_option linter.all false
set_option maxRecDepth 100000
set_option maxHeartbeats 1000000
namespace Ev
open PySem
/-! ### summaries of the program's functions, in any context: names -/
def LET : Str := "abcdefghijklmnopqrstuvwxyz"
/-- a thing that may be looked at: no exception, no text over a million signs -/
def okX : D → Bool
  | .str w => decide (w.length ≤ 1000000)
  | .exv _ _ _ => false
  | _ => true
def nameB : D → Bool
  | .str w => (decide (1 ≤ (w.length : Int)) && decide ((w.length : Int) ≤ 8)) && allIn w LET
  | _ => false
def nameBody : Ss := (.cons (.iff (.or2 (.not (.isi (.var 0) .str)) (.not (.chain .LtE .LtE (.int 1) (.bi .len (.cons (.var 0) .nil)) (.glob "MOST_LETTERS")))) (.cons (.ret (.bl false)) .nil) .nil) (.cons (.ret (.bi .all (.cons (.lc [1] (.nm 1) (.it (.var 0)) (.bl true) (.cmp .In (.var 1) (.glob "LETTERS"))) .nil))) .nil))
def lawNameBody : Ss := (.cons (.iff (.or2 (.not (.isi (.var 0) .str)) (.not (.chain .Lt .Lt (.int 0) (.bi .len (.cons (.var 0) .nil)) (.int 9)))) (.cons (.ret (.bl false)) .nil) .nil) (.cons (.ret (.cmp .Eq (.lc [1] (.nm 1) (.it (.var 0)) (.cmp .NotIn (.var 1) (.str "abcdefghijklmnopqrstuvwxyz")) (.var 1)) (.lst .nil))) .nil))
theorem isi_strV {G : Gt} {ro : Ro} {st : Store} {w : Str} {i : Nat} (h : ro[i]? = some (some (.d (.str w)))) : ev G (.not (.isi (.var i) .str)) ro st = .ok (.d (.bl false)) st :=
  ev_not_b (p := true) (ev_isi_d (x := .str w) (ev_var h) rfl)
theorem name_ok {G : Gt} (h1 : G.con "MOST_LETTERS" = some (.int 8)) (h2 : G.con "LETTERS" = some (.str LET)) (x : D) (hx : okX x = true) : runP G 2 1 nameBody [x] = some (.ok (.bl (nameB x))) := by
  by_cases hs : ∃ w, x = .str w
  · obtain ⟨w, rfl⟩ := hs
    have hw : w.length ≤ 1000000 := of_decide_eq_true hx
    unfold runP nameBody
    rw [if_pos (show [D.str w].length = 1 from rfl)]
    have i0 : ini 2 ([D.str w].map W.d) = [some (.d (.str w)), none] := rfl
    rw [i0]
    have c1 : ev G (.or2 (.not (.isi (.var 0) .str)) (.not (.chain .LtE .LtE (.int 1) (.bi .len (.cons (.var 0) .nil)) (.glob "MOST_LETTERS")))) [some (.d (.str w)), none] [] = .ok (.d (.bl (false || !(decide (1 ≤ (w.length : Int)) && decide ((w.length : Int) ≤ 8))))) [] :=
      ev_or_b (isi_strV rfl) fun _ => ev_not_b (ev_chain (ev_int 1) (ev_bi1 (ev_var rfl) (len_str w hw)) (ev_glob_d h1) (cmp_le _ _) (cmp_le _ _))
    rw [exs_cons, ex_iff_b c1]
    simp only [nameB]
    cases (decide (1 ≤ (w.length : Int)) && decide ((w.length : Int) ≤ 8)) with
    | false => rw [if_pos (show (false || !false) = true from rfl), exs_ret (ex_ret_d (ev_bl false))]; rfl
    | true =>
      rw [if_neg (show ¬ (false || !true) = true by decide), exs_nil, O.then_nx, exs_ret (ex_ret_d (all_in (a := LET) (ev_var rfl) hw (by simp [wipeW]) (fun c => ev_glob_d h2)))]
      rfl
  · cases x <;> first | rfl | exact absurd ⟨_, rfl⟩ hs | cases hx
theorem lenNe_nil (ds : List D) : lenNe (.lst ds) (.lst []) = !ds.isEmpty := by cases ds <;> rfl
theorem eq_nilD (ds : List D) : cmpD .Eq (.lst ds) (.lst []) = some ds.isEmpty := by
  show eqD _ _ = _
  cases ds with
  | nil => exact eqD_self (.lst []) rfl (by decide)
  | cons d ds => unfold eqD; rw [if_pos (by rw [lenNe_nil]; rfl)]; rfl
theorem ne_nilD (ds : List D) : cmpD .NotEq (.lst ds) (.lst []) = some (!ds.isEmpty) := by
  have := eq_nilD ds
  show (eqD _ _).map (!·) = _
  rw [show eqD (.lst ds) (.lst []) = some ds.isEmpty from this]; rfl
theorem law_name_ok {G : Gt} (x : D) (hx : okX x = true) : runP G 2 1 lawNameBody [x] = some (.ok (.bl (nameB x))) := by
  by_cases hs : ∃ w, x = .str w
  · obtain ⟨w, rfl⟩ := hs
    have hw : w.length ≤ 1000000 := of_decide_eq_true hx
    unfold runP lawNameBody
    rw [if_pos (show [D.str w].length = 1 from rfl)]
    have i0 : ini 2 ([D.str w].map W.d) = [some (.d (.str w)), none] := rfl
    rw [i0]
    have c1 : ev G (.or2 (.not (.isi (.var 0) .str)) (.not (.chain .Lt .Lt (.int 0) (.bi .len (.cons (.var 0) .nil)) (.int 9)))) [some (.d (.str w)), none] [] = .ok (.d (.bl (false || !(decide ((0 : Int) < (w.length : Int)) && decide ((w.length : Int) < 9))))) [] :=
      ev_or_b (isi_strV rfl) fun _ => ev_not_b (ev_chain (ev_int 0) (ev_bi1 (ev_var rfl) (len_str w hw)) (ev_int 9) (cmp_lt _ _) (cmp_lt _ _))
    rw [exs_cons, ex_iff_b c1]
    have e1 : decide ((0 : Int) < (w.length : Int)) = decide (1 ≤ (w.length : Int)) := decide_eq_decide.mpr (by omega)
    have e2 : decide ((w.length : Int) < 9) = decide ((w.length : Int) ≤ 8) := decide_eq_decide.mpr (by omega)
    rw [e1, e2]
    simp only [nameB]
    cases (decide (1 ≤ (w.length : Int)) && decide ((w.length : Int) ≤ 8)) with
    | false => rw [if_pos (show (false || !false) = true from rfl), exs_ret (ex_ret_d (ev_bl false))]; rfl
    | true =>
      obtain ⟨ds, k1, k2, _, _⟩ := lc_out (G := G) (own := [1]) (i := 1) (eW := .var 0) (eA := .str "abcdefghijklmnopqrstuvwxyz") (ro := [some (.d (.str w)), none]) (st := []) (a := LET) (ev_var rfl) hw (by simp [wipeW]) (fun c => ev_str _)
      rw [if_neg (show ¬ (false || !true) = true by decide), exs_nil, O.then_nx, exs_ret (ex_ret_d (ev_cmp_d k1 ev_lst0 (eq_nilD ds))), k2]
      rfl
  · cases x <;> first | rfl | exact absurd ⟨_, rfl⟩ hs | cases hx
/-! ### texts in order -/
def ltS : D → D → Bool
  | .str a, .str b => strLt a b
  | _, _ => false
def risingB : List D → Bool
  | a :: b :: r => ltS a b && risingB (b :: r)
  | _ => true
end Ev
set_option linter.all false
set_option maxRecDepth 100000
set_option maxHeartbeats 1000000
namespace Ev
open PySem
/-! ### sorted(set(xs)) == xs: the texts rise -/
theorem leT_lt (a b : Str) : leT a b = !strLt b a := by
  rw [leT_eq]
  unfold strLt
  by_cases h : b.cps.toList < a.cps.toList
  · rw [decide_eq_true h, decide_eq_false (fun z => z h)]; rfl
  · rw [decide_eq_false h, decide_eq_true (show a.cps.toList ≤ b.cps.toList from h)]; rfl
theorem strLt_trans {a b c : Str} (h : strLt a b = true) (k : strLt b c = true) : strLt a c = true := by
  unfold strLt at *
  rw [decide_eq_true_eq] at *
  exact List.lt_trans h k
theorem strLt_irr (a : Str) : strLt a a = false := by
  unfold strLt
  exact decide_eq_false (List.lt_irrefl _)
theorem strLt_le {a b : Str} (h : strLt a b = true) : leT a b = true := by
  rw [leT_lt]
  cases k : strLt b a with
  | false => rfl
  | true => have := strLt_trans h k; rw [strLt_irr] at this; cases this
theorem le_ne_lt {a b : Str} (h : leT a b = true) (k : a ≠ b) : strLt a b = true := by
  cases q : strLt a b with
  | true => rfl
  | false => exact absurd (leT_anti a b h (by rw [leT_lt, q]; rfl)) k
theorem mem_addT {L : List Str} {k x : Str} : x ∈ addT L k ↔ x ∈ L ∨ x = k := by
  unfold addT
  split
  · rename_i h
    exact ⟨.inl, fun z => z.elim id fun e => e ▸ h⟩
  · rw [List.mem_cons]; exact Or.comm
theorem addT_nodup {L : List Str} (h : L.Nodup) (k : Str) : (addT L k).Nodup := by
  unfold addT
  split
  · exact h
  · rename_i z; exact List.nodup_cons.mpr ⟨z, h⟩
theorem fold_nodup : ∀ (xs L : List Str), L.Nodup → (xs.foldl addT L).Nodup
  | [], L, h => h
  | x :: xs, L, h => fold_nodup xs _ (addT_nodup h x)
theorem setL_nodup (xs : List Str) : (setL xs).Nodup := fold_nodup xs [] List.nodup_nil
theorem mem_fold : ∀ (xs L : List Str) (x : Str), x ∈ xs.foldl addT L ↔ x ∈ L ∨ x ∈ xs
  | [], L, x => by simp
  | y :: xs, L, x => by
    rw [List.foldl_cons, mem_fold xs, mem_addT, List.mem_cons, or_assoc]
theorem mem_setL {xs : List Str} {x : Str} : x ∈ setL xs ↔ x ∈ xs := by
  unfold setL; rw [mem_fold]; simp
theorem fold_fresh : ∀ (xs L : List Str), (xs ++ L).Nodup → xs.foldl addT L = xs.reverse ++ L
  | [], L, _ => rfl
  | x :: xs, L, h => by
    have h' := List.nodup_cons.mp (show (x :: (xs ++ L)).Nodup from h)
    have hx : x ∉ L := fun z => h'.1 (List.mem_append_right _ z)
    have e : addT L x = x :: L := by unfold addT; rw [if_neg hx]
    have hp : (xs ++ x :: L).Nodup := List.perm_middle.nodup_iff.mpr h
    rw [List.foldl_cons, e, fold_fresh xs (x :: L) hp]
    simp
theorem set_perm {xs : List Str} (h : xs.Nodup) : (setL xs).Perm xs := by
  have := fold_fresh xs [] (by simpa using h)
  unfold setL
  rw [this, List.append_nil]
  exact List.reverse_perm xs
theorem rising_pw : ∀ ss : List Str, risingB (ss.map .str) = true ↔ ss.Pairwise fun a b => strLt a b = true
  | [] => by simp [risingB]
  | [a] => by simp [risingB]
  | a :: b :: r => by
    have ih := rising_pw (b :: r)
    simp only [List.map_cons, risingB, ltS, Bool.and_eq_true] at ih ⊢
    rw [ih]
    constructor
    · rintro ⟨h1, h2⟩
      refine List.pairwise_cons.mpr ⟨fun x hx => ?_, h2⟩
      rcases List.mem_cons.mp hx with rfl | hx
      · exact h1
      · exact strLt_trans h1 ((List.pairwise_cons.mp h2).1 x hx)
    · intro h
      have := List.pairwise_cons.mp h
      exact ⟨this.1 b (by simp), this.2⟩
theorem rising_set (ss : List Str) : risingB (ss.map .str) = decide (ss = sortT (setL ss)) := by
  rw [Bool.eq_iff_iff, decide_eq_true_eq, rising_pw]
  constructor
  · intro h
    have nd : ss.Nodup := h.imp fun {a b} z e => by rw [e, strLt_irr] at z; cases z
    rw [sortT_perm (set_perm nd)]
    exact (List.mergeSort_of_pairwise (h.imp fun {a b} z => strLt_le z)).symm
  · intro h
    have pw := sortT_pw (setL ss)
    rw [← h] at pw
    have nd : ss.Nodup := by
      have := (List.mergeSort_perm (setL ss) leT).nodup_iff.mpr (setL_nodup ss)
      have e : sortT (setL ss) = (setL ss).mergeSort leT := rfl
      rw [← e, ← h] at this
      exact this
    exact (pw.and nd).imp fun {a b} z => le_ne_lt z.1 z.2
theorem eqvs_strs : ∀ xs ys : List Str, D.eqvs (xs.map .str) (ys.map .str) = decide (xs = ys)
  | [], [] => by simp [D.eqvs]
  | [], y :: ys => by simp [D.eqvs]
  | x :: xs, [] => by simp [D.eqvs]
  | x :: xs, y :: ys => by
    simp only [List.map_cons, D.eqvs, D.eqv, eqvs_strs xs ys]
    by_cases h : x = y <;> simp [h]
theorem strs_nod : ∀ xs : List Str, D.nods (xs.map .str) = true
  | [] => rfl
  | x :: xs => by simp [D.nods, D.nod, strs_nod xs]
theorem strs_dep : ∀ xs : List Str, D.deps (xs.map .str) = 0
  | [] => rfl
  | x :: xs => by simp [D.deps, D.dep, strs_dep xs]
theorem eqD_strs (xs ys : List Str) : eqD (.lst (xs.map .str)) (.lst (ys.map .str)) = some (decide (xs = ys)) := by
  unfold eqD
  split
  · rename_i h
    have : (xs.map D.str).length ≠ (ys.map D.str).length := by
      have h : ((xs.map D.str).length != (ys.map D.str).length) = true := h
      simpa using h
    rw [decide_eq_false fun e => this (by rw [e])]
  · have hs : shallow (.lst (xs.map .str)) (.lst (ys.map .str)) = true := by
      unfold shallow
      simp [D.nod, D.dep, strs_nod, strs_dep]
    rw [if_pos hs]
    show some (D.eqvs (xs.map .str) (ys.map .str)) = _
    rw [eqvs_strs]
end Ev
set_option linter.all false
set_option maxRecDepth 100000
set_option maxHeartbeats 1000000
namespace Ev
open PySem
/-! ### groups -/
def groupB : D → Bool
  | .tup ds => (decide ((2 : Int) ≤ (ds.length : Int)) && decide ((ds.length : Int) ≤ 4)) && (ds.all nameB && risingB ds)
  | _ => false
/-- a group that may be looked at -/
def okG : D → Bool
  | .tup ds => ds.all okX
  | .exv _ _ _ => false
  | .scr _ => false
  | .str w => decide (w.length ≤ 1000000)
  | _ => true
def groupBody : Ss := (.cons (.iff (.or2 (.not (.isi (.var 0) .tuple)) (.or2 (.not (.chain .LtE .LtE (.int 2) (.bi .len (.cons (.var 0) .nil)) (.glob "MOST_NAMES"))) (.not (.bi .all (.cons (.lc [1] (.nm 1) (.it (.var 0)) (.bl true) (.callP "is_name" (.cons (.var 1) .nil))) .nil))))) (.cons (.ret (.bl false)) .nil) .nil) (.cons (.ret (.bi .all (.cons (.lc [1, 2] (.cons (.nm 1) (.cons (.nm 2) .nil)) (.zip (.var 0) (.slc (.var 0) (.int 1) .absent)) (.bl true) (.cmp .Lt (.var 1) (.var 2))) .nil))) .nil))
def lawGroupBody : Ss := (.cons (.iff (.or2 (.not (.isi (.var 0) .tuple)) (.or2 (.not (.chain .Lt .Lt (.int 1) (.bi .len (.cons (.var 0) .nil)) (.int 5))) (.cmp .NotEq (.lc [1] (.nm 1) (.it (.var 0)) (.not (.callP "_law_is_name" (.cons (.var 1) .nil))) (.var 1)) (.lst .nil)))) (.cons (.ret (.bl false)) .nil) .nil) (.cons (.ret (.cmp .Eq (.bi .list (.cons (.var 0) .nil)) (.srts (.var 0)))) .nil))
theorem names_strs : ∀ {ds : List D}, ds.all nameB = true → ∃ ss : List Str, ds = ss.map .str
  | [], _ => ⟨[], rfl⟩
  | d :: ds, h => by
    simp only [List.all_cons, Bool.and_eq_true] at h
    obtain ⟨ss, rfl⟩ := names_strs h.2
    cases d with
    | str w => exact ⟨w :: ss, rfl⟩
    | _ => cases h.1
theorem isi_tupV {G : Gt} {ro : Ro} {st : Store} {ds : List D} {i : Nat} (h : ro[i]? = some (some (.d (.tup ds)))) : ev G (.not (.isi (.var i) .tuple)) ro st = .ok (.d (.bl false)) st :=
  ev_not_b (p := true) (ev_isi_d (x := .tup ds) (ev_var h) rfl)
def pairD : D → D
  | .tup [a, b] => .bl (ltS a b)
  | _ => .non
theorem strsOf_strs : ∀ ss : List Str, strsOf (ss.map D.str) = some ss
  | [] => rfl
  | s :: ss => by simp [strsOf, strsOf_strs ss]
theorem cutG_tail {α : Type} (xs : List α) : cutG xs (some 1) none = xs.drop 1 := by
  unfold cutG
  cases xs with
  | nil => simp
  | cons x xs =>
    have e1 : HT.sIx (x :: xs).length 0 (some 1) = 1 := by
      have := HT.sIx_nat (x :: xs).length 0 1
      rw [show ((1 : Nat) : Int) = 1 from rfl] at this
      rw [this, List.length_cons]
      omega
    rw [e1, HT.sIx_none]
    exact List.take_of_length_le (by simp)
theorem zipD_len' : ∀ as bs : List D, (zipD as bs).length ≤ as.length
  | [], _ => by simp [zipD]
  | a :: as, [] => by simp [zipD]
  | a :: as, b :: bs => by simpa [zipD] using zipD_len' as bs
theorem zipD_mem : ∀ {as bs : List Str} {y : D}, y ∈ zipD (as.map D.str) (bs.map D.str) → ∃ a b, y = .tup [.str a, .str b]
  | [], _, _, h => by simp [zipD] at h
  | a :: as, [], _, h => by simp [zipD] at h
  | a :: as, b :: bs, y, h => by
    simp only [List.map_cons, zipD, List.mem_cons] at h
    rcases h with rfl | h
    · exact ⟨a, b, rfl⟩
    · exact zipD_mem h
theorem zip_rising : ∀ ss : List Str, (zipD (ss.map D.str) ((ss.map D.str).drop 1)).map pairD = ((ss.zip (ss.drop 1)).map fun p => strLt p.1 p.2).map D.bl
  | [] => rfl
  | [a] => rfl
  | a :: b :: r => by
    have ih := zip_rising (b :: r)
    simp only [List.map_cons, List.drop_succ_cons, List.drop_zero, List.zip_cons_cons] at ih ⊢
    rw [← ih]
    rfl
theorem zip_all : ∀ ss : List Str, ((ss.zip (ss.drop 1)).map fun p => strLt p.1 p.2).all id = risingB (ss.map .str)
  | [] => rfl
  | [a] => rfl
  | a :: b :: r => by
    have ih := zip_all (b :: r)
    simp only [List.map_cons, List.drop_succ_cons, List.drop_zero, List.zip_cons_cons, List.all_cons, risingB, ltS] at ih ⊢
    rw [ih]; rfl
theorem group_ok {G : Gt} {F : List D → Option (Except Xv D)} (h1 : G.con "MOST_NAMES" = some (.int 4)) (h2 : G.fp "is_name" = some F) (hF : ∀ x, okX x = true → F [x] = some (.ok (.bl (nameB x)))) (x : D) (hx : okG x = true) :
    runP G 3 1 groupBody [x] = some (.ok (.bl (groupB x))) := by
  by_cases hs : ∃ ds, x = .tup ds
  · obtain ⟨ds, rfl⟩ := hs
    have hd : ∀ d ∈ ds, okX d = true := List.all_eq_true.mp hx
    unfold runP groupBody
    rw [if_pos (show [D.tup ds].length = 1 from rfl)]
    have i0 : ini 3 ([D.tup ds].map W.d) = [some (.d (.tup ds)), none, none] := rfl
    rw [i0]
    have c0 : ev G (.not (.chain .LtE .LtE (.int 2) (.bi .len (.cons (.var 0) .nil)) (.glob "MOST_NAMES"))) [some (.d (.tup ds)), none, none] [] = .ok (.d (.bl (!(decide ((2 : Int) ≤ (ds.length : Int)) && decide ((ds.length : Int) ≤ 4))))) [] :=
      ev_not_b (ev_chain (ev_int 2) (ev_bi1 (ev_var rfl) (len_tup ds)) (ev_glob_d h1) (cmp_le _ _) (cmp_le _ _))
    simp only [groupB]
    cases hl : (decide ((2 : Int) ≤ (ds.length : Int)) && decide ((ds.length : Int) ≤ 4)) with
    | false =>
      rw [hl] at c0
      have c1 := ev_or_b (b := .or2 (.not (.chain .LtE .LtE (.int 2) (.bi .len (.cons (.var 0) .nil)) (.glob "MOST_NAMES"))) (.not (.bi .all (.cons (.lc [1] (.nm 1) (.it (.var 0)) (.bl true) (.callP "is_name" (.cons (.var 1) .nil))) .nil)))) (q := true) (isi_tupV (G := G) (ro := [some (.d (.tup ds)), none, none]) (st := []) (i := 0) rfl) fun _ => ev_or_b (q := true) c0 fun z => by cases z
      rw [exs_cons, ex_iff_b c1, if_pos (by rfl), exs_ret (ex_ret_d (ev_bl false))]
      rfl
    | true =>
      rw [hl] at c0
      have hl4 : ds.length ≤ 4 := by
        simp only [Bool.and_eq_true, decide_eq_true_eq] at hl; omega
      have c2 : ev G (.bi .all (.cons (.lc [1] (.nm 1) (.it (.var 0)) (.bl true) (.callP "is_name" (.cons (.var 1) .nil))) .nil)) [some (.d (.tup ds)), none, none] [] = .ok (.d (.bl (ds.all nameB))) [] := by
        refine ev_bi1 (ev_lcm ds (fun d => .bl (nameB d)) (by simp [evi, ev]) (by omega) fun d hm => ?_) ?_
        · exact ⟨[some (.d (.tup ds)), some (.d d), none], by rfl, ev_callP1 h2 (ev_var rfl) (hF d (hd d hm))⟩
        · have := all_bools (ds.map nameB)
          rw [List.map_map, List.all_map] at this
          exact this
      have c1 := ev_or_b (isi_tupV (G := G) (ro := [some (.d (.tup ds)), none, none]) (st := []) (i := 0) rfl) fun _ => ev_or_b c0 fun _ => ev_not_b c2
      rw [exs_cons, ex_iff_b c1]
      cases hn : ds.all nameB with
      | false =>
        rw [if_pos (by rfl), exs_ret (ex_ret_d (ev_bl false))]
        rfl
      | true =>
        rw [if_neg (by decide), exs_nil, O.then_nx]
        obtain ⟨ss, rfl⟩ := names_strs hn
        have z : ev G (.bi .all (.cons (.lc [1, 2] (.cons (.nm 1) (.cons (.nm 2) .nil)) (.zip (.var 0) (.slc (.var 0) (.int 1) .absent)) (.bl true) (.cmp .Lt (.var 1) (.var 2))) .nil)) [some (.d (.tup (ss.map .str))), none, none] [] = .ok (.d (.bl (risingB (ss.map .str)))) [] := by
          refine ev_bi1 (ev_lcm (zipD (ss.map D.str) ((ss.map D.str).drop 1)) pairD ?_ ?_ fun y hm => ?_) ?_
          · have e1 := ev_slcR (G := G) (ro := [some (.d (.tup (ss.map .str))), none, none]) (st := []) (a := .var 0) (b := .int 1) (j := 1) rfl (ev_var rfl) (ev_int 1)
            rw [cutG_tail] at e1
            simp only [evi, ev_var (G := G) (ro := [some (.d (.tup (ss.map .str))), none, none]) (st := []) (i := 0) rfl, R.bind_ok, e1, keepD_d]
            rfl
          · have := zipD_len' (ss.map D.str) ((ss.map D.str).drop 1)
            have hl5 : (ss.map D.str).length ≤ 4 := hl4
            omega
          · rw [← List.map_drop] at hm
            obtain ⟨a, b, rfl⟩ := zipD_mem hm
            exact ⟨[some (.d (.tup (ss.map .str))), some (.d (.str a)), some (.d (.str b))], by rfl, ev_cmp_d (ev_var rfl) (ev_var rfl) rfl⟩
          · rw [zip_rising, all_bools, zip_all]
        rw [exs_ret (ex_ret_d z)]
        rfl
  · cases x <;> first | rfl | exact absurd ⟨_, rfl⟩ hs | cases hx
theorem law_group_ok {G : Gt} {F : List D → Option (Except Xv D)} (h2 : G.fp "_law_is_name" = some F) (hF : ∀ x, okX x = true → F [x] = some (.ok (.bl (nameB x)))) (x : D) (hx : okG x = true) :
    runP G 2 1 lawGroupBody [x] = some (.ok (.bl (groupB x))) := by
  by_cases hs : ∃ ds, x = .tup ds
  · obtain ⟨ds, rfl⟩ := hs
    have hd : ∀ d ∈ ds, okX d = true := List.all_eq_true.mp hx
    unfold runP lawGroupBody
    rw [if_pos (show [D.tup ds].length = 1 from rfl)]
    have i0 : ini 2 ([D.tup ds].map W.d) = [some (.d (.tup ds)), none] := rfl
    rw [i0]
    have c0 : ev G (.not (.chain .Lt .Lt (.int 1) (.bi .len (.cons (.var 0) .nil)) (.int 5))) [some (.d (.tup ds)), none] [] = .ok (.d (.bl (!(decide ((1 : Int) < (ds.length : Int)) && decide ((ds.length : Int) < 5))))) [] :=
      ev_not_b (ev_chain (ev_int 1) (ev_bi1 (ev_var rfl) (len_tup ds)) (ev_int 5) (cmp_lt _ _) (cmp_lt _ _))
    have e1 : decide ((1 : Int) < (ds.length : Int)) = decide ((2 : Int) ≤ (ds.length : Int)) := decide_eq_decide.mpr (by omega)
    have e2 : decide ((ds.length : Int) < 5) = decide ((ds.length : Int) ≤ 4) := decide_eq_decide.mpr (by omega)
    rw [e1, e2] at c0
    simp only [groupB]
    cases hl : (decide ((2 : Int) ≤ (ds.length : Int)) && decide ((ds.length : Int) ≤ 4)) with
    | false =>
      rw [hl] at c0
      have c1 := ev_or_b (b := .or2 (.not (.chain .Lt .Lt (.int 1) (.bi .len (.cons (.var 0) .nil)) (.int 5))) (.cmp .NotEq (.lc [1] (.nm 1) (.it (.var 0)) (.not (.callP "_law_is_name" (.cons (.var 1) .nil))) (.var 1)) (.lst .nil))) (q := true) (isi_tupV (G := G) (ro := [some (.d (.tup ds)), none]) (st := []) (i := 0) rfl) fun _ => ev_or_b (q := true) c0 fun z => by cases z
      rw [exs_cons, ex_iff_b c1, if_pos (by rfl), exs_ret (ex_ret_d (ev_bl false))]
      rfl
    | true =>
      rw [hl] at c0
      have hl4 : ds.length ≤ 4 := by
        simp only [Bool.and_eq_true, decide_eq_true_eq] at hl; omega
      have c2 : ev G (.lc [1] (.nm 1) (.it (.var 0)) (.not (.callP "_law_is_name" (.cons (.var 1) .nil))) (.var 1)) [some (.d (.tup ds)), none] [] = .ok (.d (.lst (ds.filter fun d => !nameB d))) [] := by
        have := ev_lc (G := G) (own := [1]) (t := .nm 1) (it := .it (.var 0)) (c := .not (.callP "_law_is_name" (.cons (.var 1) .nil))) (e := .var 1) (ro := [some (.d (.tup ds)), none]) (st := []) ds (fun d => !nameB d) (fun d => d) (by simp [evi, ev]) (by omega) fun d hm =>
          ⟨[some (.d (.tup ds)), some (.d d)], by rfl, ev_not_b (ev_callP1 h2 (ev_var rfl) (hF d (hd d hm))), fun _ => ev_var rfl⟩
        rw [List.map_id'] at this
        exact this
      have c3 := ev_cmp_d c2 ev_lst0 (ne_nilD _)
      have ee : (!(ds.filter fun d => !nameB d).isEmpty) = !ds.all nameB := by
        congr 1
        rw [Bool.eq_iff_iff, List.isEmpty_iff, List.filter_eq_nil_iff, List.all_eq_true]
        simp
      rw [ee] at c3
      have c1 := ev_or_b (isi_tupV (G := G) (ro := [some (.d (.tup ds)), none]) (st := []) (i := 0) rfl) fun _ => ev_or_b c0 fun _ => c3
      rw [exs_cons, ex_iff_b c1]
      cases hn : ds.all nameB with
      | false =>
        rw [if_pos (by rfl), exs_ret (ex_ret_d (ev_bl false))]
        rfl
      | true =>
        rw [if_neg (by decide), exs_nil, O.then_nx]
        obtain ⟨ss, rfl⟩ := names_strs hn
        have hl5 : ss.length ≤ 4 := by simpa using hl4
        have so := strsOf_strs ss
        have z1 : ev G (.srts (.var 0)) [some (.d (.tup (ss.map .str))), none] [] = .ok (.d (.lst ((sortT (setL ss)).map .str))) [] := by
          simp only [ev, ev_var (G := G) (ro := [some (.d (.tup (ss.map .str))), none]) (st := []) (i := 0) rfl, List.getElem?_cons_zero, R.bind_ok, peek_d, Option.bind_some, srtsD, srtsL, so]
          rw [if_pos (by omega)]
          rfl
        have z2 : ev G (.bi .list (.cons (.var 0) .nil)) [some (.d (.tup (ss.map .str))), none] [] = .ok (.d (.lst (ss.map .str))) [] := ev_bi1 (ev_var rfl) rfl
        rw [exs_ret (ex_ret_d (ev_cmp_d (op := .Eq) z2 z1 (eqD_strs _ _))), ← rising_set]
        rfl
  · cases x <;> first | rfl | exact absurd ⟨_, rfl⟩ hs | cases hx
end Ev
set_option linter.all false
set_option maxRecDepth 100000
set_option maxHeartbeats 1000000
namespace Ev
open PySem
/-! ### calls: the first group that can't be -/
def strsIn : List D → List Str
  | [] => []
  | .str s :: r => s :: strsIn r
  | _ :: r => strsIn r
theorem strsIn_strs : ∀ ss : List Str, strsIn (ss.map .str) = ss
  | [] => rfl
  | s :: ss => by simp [strsIn, strsIn_strs ss]
def namesOf : D → List Str
  | .tup ds => strsIn ds
  | _ => []
theorem namesOf_strs (ss : List Str) : namesOf (.tup (ss.map .str)) = ss := strsIn_strs ss
/-- the group d behind the group p, with the names kn ahead, can't be -/
def badB (d : D) (p : Option D) (kn : List Str) : Bool := !groupB d || ((namesOf d).any (fun n => kn.any fun y => y == n) || match p with
  | none => false
  | some q => !PySem.W.dataLt q.py d.py)
def badFrom : Nat → Option D → List Str → List D → Option Nat
  | _, _, _, [] => none
  | i, p, kn, d :: r => if badB d p kn = true then some i else badFrom (i + 1) (some d) (kn ++ namesOf d) r
theorem group_strs {d : D} (h : groupB d = true) : ∃ ss : List Str, d = .tup (ss.map .str) ∧ 2 ≤ ss.length ∧ ss.length ≤ 4 ∧ (ss.map D.str).all nameB = true ∧ risingB (ss.map .str) = true := by
  cases d with
  | tup ds =>
    simp only [groupB, Bool.and_eq_true, decide_eq_true_eq] at h
    obtain ⟨⟨h1, h2⟩, h3, h4⟩ := h
    obtain ⟨ss, rfl⟩ := names_strs h3
    rw [List.length_map] at h1 h2
    exact ⟨ss, rfl, by omega, by omega, h3, h4⟩
  | _ => cases h
theorem alike_strs : ∀ xs ys : List Str, PySem.W.alikeAll (D.pys (xs.map .str)) (D.pys (ys.map .str)) = true
  | [], _ => by simp [D.pys, PySem.W.alikeAll]
  | x :: xs, [] => by simp [D.pys, PySem.W.alikeAll]
  | x :: xs, y :: ys => by simp [D.pys, D.py, PySem.W.alikeAll, PySem.W.alike, alike_strs xs ys]
theorem depth_strs : ∀ xs : List Str, PyData.depthAll (D.pys (xs.map .str)) = 0
  | [] => rfl
  | x :: xs => by simp [D.pys, D.py, PyData.depthAll, PyData.depth, depth_strs xs]
theorem ordD_strs (f : PyData → PyData → Bool) (xs ys : List Str) : ordD f (.tup (xs.map .str)) (.tup (ys.map .str)) = some (f (D.py (.tup (xs.map .str))) (D.py (.tup (ys.map .str)))) := by
  unfold ordD
  rw [if_pos]
  simp [D.nod, strs_nod, D.py, PySem.W.alike, alike_strs, PyData.depth, depth_strs, D.isNon]
theorem in_strs (z : Str) (xs : List Str) : cmpD .In (.str z) (.lst (xs.map .str)) = some (xs.any fun x => x == z) := by
  show inList (.str z) (xs.map .str) = _
  unfold inList
  rw [if_pos (by rw [strs_nod, strs_dep]; simp; rfl), List.any_map]
  rfl
theorem ix_nat {ds : List D} {i : Nat} {d : D} (h : ds[i]? = some d) : ixD (.tup ds) (.int (i : Nat)) = some d := by
  have hl : i < ds.length := (List.getElem?_eq_some_iff.mp h).1
  obtain ⟨v, h1, h2, _⟩ := ix_memT (ds := ds) (d := (i : Nat)) (by omega) (by omega)
  rw [h1]
  rw [Int.toNat_natCast, h] at h2
  exact h2.symm
def dueLoop : Ss := (.cons (.iff (.or2 (.not (.callP "_law_is_group" (.cons (.var 3) .nil))) (.cmp .NotEq (.lc [4] (.nm 4) (.it (.var 3)) (.cmp .In (.var 4) (.var 1)) (.var 4)) (.lst .nil))) (.cons (.ret (.var 2)) .nil) .nil) (.cons (.iff (.and2 (.cmp .Gt (.var 2) (.int 0)) (.not (.cmp .Lt (.sub (.var 0) (.bin .Sub (.var 2) (.int 1))) (.var 3)))) (.cons (.ret (.var 2)) .nil) .nil) (.cons (.ext (.var 1) (.var 3)) .nil)))
theorem due_turn {G : Gt} {F : List D → Option (Except Xv D)} (hG : G.fp "_law_is_group" = some F) (hF : ∀ x, okG x = true → F [x] = some (.ok (.bl (groupB x)))) {ds : List D} {i : Nat} {d : D} {p : Option D} {kn : List Str} {ro : Ro} (hr : ro.length = 5) (h0 : ro[0]? = some (some (.d (.tup ds)))) (h1 : ro[1]? = some (some (.cell 0)))
    (hd : okG d = true) (hi : ds[i]? = some d) (hp : (i = 0 ∧ p = none) ∨ ∃ q j, i = j + 1 ∧ ds[j]? = some q ∧ p = some q ∧ groupB q = true) (hk : kn.length ≤ 1000) :
    (badB d p kn = true ∧ ∃ st', exs G dueLoop ((ro.set 2 (some (.d (.int (i : Nat))))).set 3 (some (.d d))) [.lst (kn.map .str)] = .ret (.d (.int (i : Nat))) st') ∨
    (badB d p kn = false ∧ groupB d = true ∧ ∃ ro2, exs G dueLoop ((ro.set 2 (some (.d (.int (i : Nat))))).set 3 (some (.d d))) [.lst (kn.map .str)] = .nx ro2 [.lst ((kn ++ namesOf d).map .str)] ∧ ro2.length = 5 ∧ ro2[0]? = some (some (.d (.tup ds))) ∧ ro2[1]? = some (some (.cell 0))) := by
  obtain ⟨Z, hR⟩ : ∃ Z, Z = (ro.set 2 (some (W.d (.int (i : Nat))))).set 3 (some (.d d)) := ⟨_, rfl⟩
  rw [← hR]
  have nR : Z.length = 5 := by rw [hR]; simp [hr]
  have r0 : Z[0]? = some (some (.d (.tup ds))) := by rw [hR]; simp [h0]
  have r1 : Z[1]? = some (some (.cell 0)) := by rw [hR]; simp [h1]
  have r2 : Z[2]? = some (some (.d (.int (i : Nat)))) := by rw [hR]; simp [hr]
  have r3 : Z[3]? = some (some (.d d)) := by rw [hR]; simp [hr]
  have c0 : ev G (.not (.callP "_law_is_group" (.cons (.var 3) .nil))) Z [.lst (kn.map .str)] = .ok (.d (.bl (!groupB d))) [.lst (kn.map .str)] := ev_not_b (ev_callP1 hG (ev_var r3) (hF d hd))
  unfold dueLoop
  cases hg : groupB d with
  | false =>
    rw [hg] at c0
    refine .inl ⟨by simp [badB, hg], [.lst (kn.map .str)], ?_⟩
    have c1 := ev_or_b (b := .cmp .NotEq (.lc [4] (.nm 4) (.it (.var 3)) (.cmp .In (.var 4) (.var 1)) (.var 4)) (.lst .nil)) (q := true) c0 fun z => by cases z
    rw [exs_cons, ex_iff_b c1, if_pos (by rfl), exs_ret (ex_ret_d (ev_var r2))]
    rfl
  | true =>
    rw [hg] at c0
    obtain ⟨ss, rfl, hs2, hs4, hn, hris⟩ := group_strs hg
    have c2 : ev G (.lc [4] (.nm 4) (.it (.var 3)) (.cmp .In (.var 4) (.var 1)) (.var 4)) Z [.lst (kn.map .str)] = .ok (.d (.lst ((ss.map D.str).filter fun x => match x with | .str z => kn.any (fun y => y == z) | _ => false))) [.lst (kn.map .str)] := by
      have := ev_lc (G := G) (own := [4]) (t := .nm 4) (it := .it (.var 3)) (c := .cmp .In (.var 4) (.var 1)) (e := .var 4) (ro := Z) (st := [.lst (kn.map .str)]) (ss.map D.str) (fun x => match x with | .str z => kn.any (fun y => y == z) | _ => false) (fun d => d) (by simp [evi, ev, r3]) (by simp; omega) fun y hm => by
        obtain ⟨z, hz, rfl⟩ := List.mem_map.mp hm
        refine ⟨(wipeW Z [4]).set 4 (some (.d (.str z))), by simp [asgT, wipeW, nR], ?_, fun _ => ev_var (by simp [wipeW, nR])⟩
        have v4 : ev G (.var 4) ((wipeW Z [4]).set 4 (some (.d (.str z)))) [.lst (kn.map .str)] = .ok (.d (.str z)) [.lst (kn.map .str)] := ev_var (by simp [wipeW, nR])
        have v1 : ev G (.var 1) ((wipeW Z [4]).set 4 (some (.d (.str z)))) [.lst (kn.map .str)] = .ok (.cell 0) [.lst (kn.map .str)] := ev_var (by simp [wipeW, r1])
        rw [ev_cmp, v4, R.bind_ok, v1, R.bind_ok]
        show okB ((peek [.lst (kn.map .str)] (.d (.str z))).bind fun x => (peek [.lst (kn.map .str)] (.cell 0)).bind fun y => cmpD .In x y) _ = _
        simp only [peek, Option.bind_some, List.getElem?_cons_zero, in_strs, okB_some]
      rw [List.map_id'] at this
      exact this
    have c3 := ev_cmp_d c2 ev_lst0 (ne_nilD _)
    have ee : (!((ss.map D.str).filter fun x => match x with | .str z => kn.any (fun y => y == z) | _ => false).isEmpty) = ss.any (fun n => kn.any fun y => y == n) := by
      rw [Bool.eq_iff_iff, Bool.not_eq_true', List.isEmpty_eq_false_iff_exists_mem, List.any_eq_true]
      constructor
      · rintro ⟨x, hx⟩
        obtain ⟨m1, m2⟩ := List.mem_filter.mp hx
        obtain ⟨z, hz, rfl⟩ := List.mem_map.mp m1
        exact ⟨z, hz, m2⟩
      · rintro ⟨z, hz, m2⟩
        exact ⟨_, List.mem_filter.mpr ⟨List.mem_map.mpr ⟨z, hz, rfl⟩, m2⟩⟩
    rw [ee] at c3
    have c1 := ev_or_b c0 fun _ => c3
    rw [exs_cons, ex_iff_b c1]
    simp only [badB, hg, namesOf_strs, Bool.not_true, Bool.false_or]
    cases hany : ss.any (fun n => kn.any fun y => y == n) with
    | true =>
      refine .inl ⟨by rfl, [.lst (kn.map .str)], ?_⟩
      rw [if_pos (by rfl), exs_ret (ex_ret_d (ev_var r2))]
      rfl
    | false =>
      rw [if_neg (by decide), exs_nil, O.then_nx]
      have last : exs G (.cons (.ext (.var 1) (.var 3)) .nil) Z [.lst (kn.map .str)] = .nx Z [.lst ((kn ++ ss).map .str)] := by
        have : ex G (.ext (.var 1) (.var 3)) Z [.lst (kn.map .str)] = .nx Z [.lst ((kn ++ ss).map .str)] := by
          simp only [ex, ev_var r1, ev_var r3, R.o_ok]
          rw [if_pos (by rfl)]
          simp only [keepD, R.o_ok, seqOf, extC, List.getElem?_cons_zero]
          rw [if_pos (by simp; omega)]
          simp
        rw [exs_nx this, exs_nil]
      rcases hp with ⟨rfl, rfl⟩ | ⟨q, j, rfl, hq, rfl, hgq⟩
      · have g : ev G (.cmp .Gt (.var 2) (.int 0)) Z [.lst (kn.map .str)] = .ok (.d (.bl false)) [.lst (kn.map .str)] := ev_cmp_d (ev_var r2) (ev_int 0) (by rfl)
        have a := ev_and_b (b := .not (.cmp .Lt (.sub (.var 0) (.bin .Sub (.var 2) (.int 1))) (.var 3))) (q := false) g fun z => by cases z
        refine .inr ⟨by rfl, by first | rfl | trivial, Z, ?_, nR, r0, r1⟩
        rw [exs_cons, ex_iff_b a, if_neg (by decide), exs_nil, O.then_nx, last]
      · obtain ⟨zs, rfl, _, _, _, _⟩ := group_strs hgq
        have g : ev G (.cmp .Gt (.var 2) (.int 0)) Z [.lst (kn.map .str)] = .ok (.d (.bl true)) [.lst (kn.map .str)] := ev_cmp_d (ev_var r2) (ev_int 0) (by rw [cmp_gt]; congr 1; exact decide_eq_true (by omega))
        have sb : ev G (.sub (.var 0) (.bin .Sub (.var 2) (.int 1))) Z [.lst (kn.map .str)] = .ok (.d (.tup (zs.map .str))) [.lst (kn.map .str)] :=
          ev_sub_d (ev_var r0) (ev_bin_d (ev_var r2) (ev_int 1) (z := .int (j : Nat)) (by show some (D.int (((j + 1 : Nat) : Int) - 1)) = _; congr 2; omega)) (ix_nat hq)
        have lt := ev_cmp_d (op := .Lt) sb (ev_var r3) (ordD_strs PySem.W.dataLt zs ss)
        have a := ev_and_b g fun _ => ev_not_b lt
        rw [exs_cons, ex_iff_b a]
        dsimp only
        cases hlt : PySem.W.dataLt (D.py (.tup (zs.map .str))) (D.py (.tup (ss.map .str))) with
        | false =>
          refine .inl ⟨by rfl, [.lst (kn.map .str)], ?_⟩
          rw [if_pos (by rfl), exs_ret (ex_ret_d (ev_var r2))]
          rfl
        | true =>
          refine .inr ⟨by rfl, by first | rfl | trivial, Z, ?_, nR, r0, r1⟩
          rw [if_neg (by decide), exs_nil, O.then_nx, last]
end Ev
set_option linter.all false
set_option maxRecDepth 100000
set_option maxHeartbeats 1000000
namespace Ev
open PySem
def callsX : D → Option (Option Nat)
  | .tup ds => if ds.length ≤ 6 then (badFrom 0 none [] ds).map some else some none
  | _ => some none
def dueV : Option (Option Nat) → D
  | none => .non
  | some none => .str "none"
  | some (some i) => .int i
/-- calls that may be looked at -/
def okT : D → Bool
  | .tup ds => ds.all okG
  | .exv _ _ _ => false
  | .scr _ => false
  | _ => true
def dueBody : Ss := (.cons (.iff (.or2 (.not (.isi (.var 0) .tuple)) (.cmp .Gt (.bi .len (.cons (.var 0) .nil)) (.int 6))) (.cons (.ret (.str "none")) .nil) .nil) (.cons (.set 1 .nlst) (.cons (.for_ (.cons (.nm 2) (.cons (.nm 3) .nil)) (.enm (.var 0)) dueLoop) (.cons (.ret .non) .nil))))
theorem names_len {d : D} (h : groupB d = true) : (namesOf d).length ≤ 4 := by
  obtain ⟨ss, rfl, _, h4, _, _⟩ := group_strs h
  rw [namesOf_strs]; exact h4
theorem due_loop {G : Gt} {F : List D → Option (Except Xv D)} (hG : G.fp "_law_is_group" = some F) (hF : ∀ x, okG x = true → F [x] = some (.ok (.bl (groupB x)))) {ds : List D} :
    ∀ (r : List D) (i : Nat) (p : Option D) (kn : List Str) (ro : Ro), r = ds.drop i → ds.length ≤ 6 → (∀ d ∈ r, okG d = true) → ((i = 0 ∧ p = none) ∨ ∃ q j, i = j + 1 ∧ ds[j]? = some q ∧ p = some q ∧ groupB q = true) → kn.length ≤ 4 * i → ro.length = 5 → ro[0]? = some (some (.d (.tup ds))) → ro[1]? = some (some (.cell 0)) →
      (∃ k st', badFrom i p kn r = some k ∧ forRun (exs G dueLoop) (.cons (.nm 2) (.cons (.nm 3) .nil)) (enumFrom i r) ro [.lst (kn.map .str)] = .ret (.d (.int (k : Nat))) st') ∨
      (badFrom i p kn r = none ∧ ∃ ro' st', forRun (exs G dueLoop) (.cons (.nm 2) (.cons (.nm 3) .nil)) (enumFrom i r) ro [.lst (kn.map .str)] = .nx ro' st')
  | [], i, p, kn, ro, _, _, _, _, _, _, _, _ => .inr ⟨rfl, ro, _, rfl⟩
  | d :: r, i, p, kn, ro, hr, h6, ho, hp, hk, hl, h0, h1 => by
    have hi : ds[i]? = some d := by
      have : (ds.drop i)[0]? = some d := by rw [← hr]; rfl
      rw [List.getElem?_drop] at this
      simpa using this
    have hlt : i < ds.length := (List.getElem?_eq_some_iff.mp hi).1
    have hr' : r = ds.drop (i + 1) := by
      have := congrArg List.tail hr
      rw [List.tail_drop] at this
      exact this
    have ht := due_turn (kn := kn) hG hF hl h0 h1 (ho d (by simp)) hi hp (by omega)
    have as : asgT (.cons (.nm 2) (.cons (.nm 3) .nil)) (.tup [.int (i : Nat), d]) ro = some ((ro.set 2 (some (.d (.int (i : Nat))))).set 3 (some (.d d))) := by simp [asgT, asgTs, hl]
    rcases ht with ⟨b, st', e⟩ | ⟨b, hg, ro2, e, l2, k0, k1⟩
    · refine .inl ⟨i, st', by simp only [badFrom, b, if_true], ?_⟩
      simp only [enumFrom, forRun, as, e, turn_ret]
    · have hn := names_len hg
      have ih := due_loop hG hF r (i + 1) (some d) (kn ++ namesOf d) ro2 hr' h6 (fun x hx => ho x (by simp [hx])) (.inr ⟨d, i, rfl, hi, rfl, hg⟩) (by rw [List.length_append]; omega) l2 k0 k1
      simp only [enumFrom, forRun, as, e, turn_nx, badFrom, b, Bool.false_eq_true, if_false]
      exact ih
theorem due_ok {G : Gt} {F : List D → Option (Except Xv D)} (hG : G.fp "_law_is_group" = some F) (hF : ∀ x, okG x = true → F [x] = some (.ok (.bl (groupB x)))) (x : D) (hx : okT x = true) :
    runP G 5 1 dueBody [x] = some (.ok (dueV (callsX x))) := by
  by_cases hs : ∃ ds, x = .tup ds
  · obtain ⟨ds, rfl⟩ := hs
    unfold runP dueBody
    rw [if_pos (show [D.tup ds].length = 1 from rfl)]
    have i0 : ini 5 ([D.tup ds].map W.d) = [some (.d (.tup ds)), none, none, none, none] := rfl
    rw [i0]
    have c1 := ev_or_b (isi_tupV (G := G) (ro := [some (.d (.tup ds)), none, none, none, none]) (st := []) (i := 0) rfl) fun _ => ev_cmp_d (op := .Gt) (a := .bi .len (.cons (.var 0) .nil)) (b := .int 6) (ev_bi1 (ev_var rfl) (len_tup ds)) (ev_int 6) (cmp_gt _ _)
    rw [exs_cons, ex_iff_b c1]
    simp only [callsX]
    by_cases h6 : ds.length ≤ 6
    · rw [if_pos h6, if_neg (by simp; omega), exs_nil, O.then_nx]
      have s1 : ex G (.set 1 .nlst) [some (.d (.tup ds)), none, none, none, none] [] = .nx [some (.d (.tup ds)), some (.cell 0), none, none, none] [.lst []] := by simp [ex, ev, setRo]
      rw [exs_nx s1]
      have ei : evi G (.enm (.var 0)) [some (.d (.tup ds)), some (.cell 0), none, none, none] [.lst []] = .ok (enumFrom 0 ds) [.lst []] := by simp [evi, ev, enmD, keepD]
      have hl := due_loop hG hF ds 0 none [] [some (.d (.tup ds)), some (.cell 0), none, none, none] rfl h6 (List.all_eq_true.mp hx) (.inl ⟨rfl, rfl⟩) (by simp) rfl rfl rfl
      rw [List.map_nil] at hl
      rw [exs_cons, ex_for, ei, R.o_ok]
      rcases hl with ⟨k, st', h1, h2⟩ | ⟨h1, ro', st', h2⟩
      · rw [h1, h2, then_ret]; rfl
      · rw [h1, h2, O.then_nx, exs_ret (ex_ret_d ev_non)]; rfl
    · rw [if_neg h6, if_pos (by simp; omega), exs_ret (ex_ret_d (ev_str _))]
      rfl
  · cases x <;> first | rfl | exact absurd ⟨_, rfl⟩ hs | cases hx
end Ev
set_option linter.all false
set_option maxRecDepth 100000
set_option maxHeartbeats 1000000
namespace Ev
open PySem L2
/-! ### bad_group -/
def kvT (s : Str) : Key × D := (.inr s, .bl true)
theorem look_kv (z : Str) : ∀ kn : List Str, (lookK (kn.map kvT) (.inr z)).isSome = kn.any fun y => y == z
  | [] => rfl
  | k :: kn => by
    have ih := look_kv z kn
    unfold lookK at ih ⊢
    rw [List.map_cons, List.find?_cons, List.any_cons]
    by_cases h : k = z
    · subst h
      simp [kvT]
    · have e : decide ((kvT k).1 = (Sum.inr z : Key)) = false := decide_eq_false fun q => h (Sum.inr.inj q)
      rw [e]
      simp only [ih]
      have : (k == z) = false := by simpa using h
      rw [this, Bool.false_or]
theorem put_kv {z : Str} {kn : List Str} (h : (kn.any fun y => y == z) = false) : putD (kn.map kvT) (.inr z) (.bl true) = (kn ++ [z]).map kvT := by
  unfold putD
  rw [if_neg, List.map_append]
  · rfl
  · intro q
    obtain ⟨kv, h1, h2⟩ := List.any_eq_true.mp q
    obtain ⟨y, hy, rfl⟩ := List.mem_map.mp h1
    have e : y = z := Sum.inr.inj (of_decide_eq_true h2)
    have := List.any_eq_false.mp h y hy
    rw [e] at this
    simp at this
def badIn : Ss := (.cons (.dput (.var 1) (.var 4) (.bl true)) .nil)
def badLoop : Ss := (.cons (.iff (.or2 (.not (.callP "is_group" (.cons (.var 3) .nil))) (.bi .any (.cons (.lc [4] (.nm 4) (.it (.var 3)) (.bl true) (.kin false (.var 4) (.var 1))) .nil))) (.cons (.ret (.var 2)) .nil) .nil) (.cons (.iff (.and2 (.cmp .Gt (.var 2) (.int 0)) (.cmp .LtE (.var 3) (.sub (.var 0) (.bin .Sub (.var 2) (.int 1))))) (.cons (.ret (.var 2)) .nil) .nil) (.cons (.for_ (.nm 4) (.it (.var 3)) badIn) .nil)))
def badBody : Ss := (.cons (.set 1 .ndic) (.cons (.for_ (.cons (.nm 2) (.cons (.nm 3) .nil)) (.enm (.var 0)) badLoop) (.cons (.ret .non) .nil)))
theorem put_loop {G : Gt} {ds : List D} : ∀ (zs kn : List Str) (ro : Ro), zs.Nodup → (∀ z ∈ zs, (kn.any fun y => y == z) = false) → kn.length + zs.length ≤ 1000 → ro.length = 5 → ro[0]? = some (some (.d (.tup ds))) → ro[1]? = some (some (.cell 0)) →
    ∃ ro', forRun (exs G badIn) (.nm 4) (zs.map .str) ro [.dic (kn.map kvT)] = .nx ro' [.dic ((kn ++ zs).map kvT)] ∧ ro'.length = 5 ∧ ro'[0]? = some (some (.d (.tup ds))) ∧ ro'[1]? = some (some (.cell 0))
  | [], kn, ro, _, _, _, hl, h0, h1 => ⟨ro, by simp [forRun], hl, h0, h1⟩
  | z :: zs, kn, ro, hn, hk, hs, hl, h0, h1 => by
    have nd := List.nodup_cons.mp hn
    have hz := hk z (by simp)
    have q1 : (ro.set 4 (some (W.d (.str z))))[1]? = some (some (.cell 0)) := by simp [h1]
    have q4 : (ro.set 4 (some (W.d (.str z))))[4]? = some (some (.d (.str z))) := by simp [hl]
    have e : exs G badIn (ro.set 4 (some (.d (.str z)))) [.dic (kn.map kvT)] = .nx (ro.set 4 (some (.d (.str z)))) [.dic ((kn ++ [z]).map kvT)] := by
      unfold badIn
      rw [exs_nx (ex_dput (G := G) (n := 0) (kvs := kn.map kvT) (key := .inr z) (ev_bl true) (ev_var q1) (ev_var q4) rfl rfl (by simp at hs ⊢; omega)), exs_nil, put_kv hz]
      rfl
    obtain ⟨ro', k1, k2, k3, k4⟩ := put_loop (G := G) (ds := ds) zs (kn ++ [z]) (ro.set 4 (some (.d (.str z)))) nd.2 (fun x hx => by
      rw [List.any_append, hk x (by simp [hx])]
      have : z ≠ x := fun q => nd.1 (q ▸ hx)
      simp [this]) (by simp at hs ⊢; omega) (by simp [hl]) (by simp [h0]) q1
    refine ⟨ro', ?_, k2, k3, k4⟩
    have as : asgT (.nm 4) (.str z) ro = some (ro.set 4 (some (.d (.str z)))) := by simp [asgT, hl]
    simp only [List.map_cons, forRun, as, e, turn_nx]
    rw [k1]
    simp
theorem bad_turn {G : Gt} {F : List D → Option (Except Xv D)} (hG : G.fp "is_group" = some F) (hF : ∀ x, okG x = true → F [x] = some (.ok (.bl (groupB x)))) {ds : List D} {i : Nat} {d : D} {p : Option D} {kn : List Str} {ro : Ro} (hr : ro.length = 5) (h0 : ro[0]? = some (some (.d (.tup ds)))) (h1 : ro[1]? = some (some (.cell 0)))
    (hd : okG d = true) (hi : ds[i]? = some d) (hp : (i = 0 ∧ p = none) ∨ ∃ q j, i = j + 1 ∧ ds[j]? = some q ∧ p = some q ∧ groupB q = true) (hk : kn.length ≤ 900) :
    (badB d p kn = true ∧ ∃ st', exs G badLoop ((ro.set 2 (some (.d (.int (i : Nat))))).set 3 (some (.d d))) [.dic (kn.map kvT)] = .ret (.d (.int (i : Nat))) st') ∨
    (badB d p kn = false ∧ groupB d = true ∧ ∃ ro2, exs G badLoop ((ro.set 2 (some (.d (.int (i : Nat))))).set 3 (some (.d d))) [.dic (kn.map kvT)] = .nx ro2 [.dic ((kn ++ namesOf d).map kvT)] ∧ ro2.length = 5 ∧ ro2[0]? = some (some (.d (.tup ds))) ∧ ro2[1]? = some (some (.cell 0))) := by
  obtain ⟨Z, hZ⟩ : ∃ Z, Z = (ro.set 2 (some (W.d (.int (i : Nat))))).set 3 (some (.d d)) := ⟨_, rfl⟩
  rw [← hZ]
  have nR : Z.length = 5 := by rw [hZ]; simp [hr]
  have r0 : Z[0]? = some (some (.d (.tup ds))) := by rw [hZ]; simp [h0]
  have r1 : Z[1]? = some (some (.cell 0)) := by rw [hZ]; simp [h1]
  have r2 : Z[2]? = some (some (.d (.int (i : Nat)))) := by rw [hZ]; simp [hr]
  have r3 : Z[3]? = some (some (.d d)) := by rw [hZ]; simp [hr]
  have c0 : ev G (.not (.callP "is_group" (.cons (.var 3) .nil))) Z [.dic (kn.map kvT)] = .ok (.d (.bl (!groupB d))) [.dic (kn.map kvT)] := ev_not_b (ev_callP1 hG (ev_var r3) (hF d hd))
  unfold badLoop
  cases hg : groupB d with
  | false =>
    rw [hg] at c0
    refine .inl ⟨by simp [badB, hg], [.dic (kn.map kvT)], ?_⟩
    have c1 := ev_or_b (b := .bi .any (.cons (.lc [4] (.nm 4) (.it (.var 3)) (.bl true) (.kin false (.var 4) (.var 1))) .nil)) (q := true) c0 fun z => by cases z
    rw [exs_cons, ex_iff_b c1, if_pos (by rfl), exs_ret (ex_ret_d (ev_var r2))]
    rfl
  | true =>
    rw [hg] at c0
    obtain ⟨ss, rfl, hs2, hs4, hn, hris⟩ := group_strs hg
    have c3 : ev G (.bi .any (.cons (.lc [4] (.nm 4) (.it (.var 3)) (.bl true) (.kin false (.var 4) (.var 1))) .nil)) Z [.dic (kn.map kvT)] = .ok (.d (.bl (ss.any fun n => kn.any fun y => y == n))) [.dic (kn.map kvT)] := by
      refine ev_bi1 (ev_lcm (ss.map D.str) (fun x => .bl (match x with | .str z => kn.any (fun y => y == z) | _ => false)) (by simp [evi, ev, r3]) (by simp; omega) fun y hm => ?_) ?_
      · obtain ⟨z, hz, rfl⟩ := List.mem_map.mp hm
        refine ⟨(wipeW Z [4]).set 4 (some (.d (.str z))), by simp [asgT, wipeW, nR], ?_⟩
        have v4 : ev G (.var 4) ((wipeW Z [4]).set 4 (some (.d (.str z)))) [.dic (kn.map kvT)] = .ok (.d (.str z)) [.dic (kn.map kvT)] := ev_var (by simp [wipeW, nR])
        have v1 : ev G (.var 1) ((wipeW Z [4]).set 4 (some (.d (.str z)))) [.dic (kn.map kvT)] = .ok (.cell 0) [.dic (kn.map kvT)] := ev_var (by simp [wipeW, r1])
        simp only [ev] at v4 v1 ⊢
        rw [v4, R.bind_ok, v1, R.bind_ok]
        simp only [kinD, keyOf, List.getElem?_cons_zero, Option.map_some, look_kv, okB_some]
        simp
      · have := any_bools (ss.map fun n => kn.any fun y => y == n)
        rw [List.map_map, List.any_map] at this
        rw [List.map_map]
        exact this
    have c1 := ev_or_b c0 fun _ => c3
    rw [exs_cons, ex_iff_b c1]
    simp only [badB, hg, namesOf_strs, Bool.not_true, Bool.false_or]
    cases hany : ss.any (fun n => kn.any fun y => y == n) with
    | true =>
      refine .inl ⟨by rfl, [.dic (kn.map kvT)], ?_⟩
      rw [if_pos (by rfl), exs_ret (ex_ret_d (ev_var r2))]
      rfl
    | false =>
      rw [if_neg (by decide), exs_nil, O.then_nx]
      have nd : ss.Nodup := ((rising_pw ss).mp hris).imp fun {a b} z e => by rw [e, strLt_irr] at z; cases z
      obtain ⟨Z', k1, k2, k3, k4⟩ := put_loop (G := G) (ds := ds) ss kn Z nd (fun z hz => by have := List.any_eq_false.mp hany z hz; simpa only [Bool.not_eq_true] using this) (by omega) nR r0 r1
      have last : exs G (.cons (.for_ (.nm 4) (.it (.var 3)) badIn) .nil) Z [.dic (kn.map kvT)] = .nx Z' [.dic ((kn ++ ss).map kvT)] := by
        have ei : evi G (.it (.var 3)) Z [.dic (kn.map kvT)] = .ok (ss.map .str) [.dic (kn.map kvT)] := by simp [evi, ev, r3, keepD]
        rw [exs_nx (ro1 := Z') (st1 := [.dic ((kn ++ ss).map kvT)]) (by rw [ex_for, ei, R.o_ok, k1]), exs_nil]
      rcases hp with ⟨rfl, rfl⟩ | ⟨q, j, rfl, hq, rfl, hgq⟩
      · have g : ev G (.cmp .Gt (.var 2) (.int 0)) Z [.dic (kn.map kvT)] = .ok (.d (.bl false)) [.dic (kn.map kvT)] := ev_cmp_d (ev_var r2) (ev_int 0) (by rfl)
        have a := ev_and_b (b := .cmp .LtE (.var 3) (.sub (.var 0) (.bin .Sub (.var 2) (.int 1)))) (q := false) g fun z => by cases z
        refine .inr ⟨by rfl, by first | rfl | trivial, Z', ?_, k2, k3, k4⟩
        rw [exs_cons, ex_iff_b a, if_neg (by decide), exs_nil, O.then_nx, last]
      · obtain ⟨zs, rfl, _, _, _, _⟩ := group_strs hgq
        have g : ev G (.cmp .Gt (.var 2) (.int 0)) Z [.dic (kn.map kvT)] = .ok (.d (.bl true)) [.dic (kn.map kvT)] := ev_cmp_d (ev_var r2) (ev_int 0) (by rw [cmp_gt]; congr 1; exact decide_eq_true (by omega))
        have sb : ev G (.sub (.var 0) (.bin .Sub (.var 2) (.int 1))) Z [.dic (kn.map kvT)] = .ok (.d (.tup (zs.map .str))) [.dic (kn.map kvT)] :=
          ev_sub_d (ev_var r0) (ev_bin_d (ev_var r2) (ev_int 1) (z := .int (j : Nat)) (by show some (D.int (((j + 1 : Nat) : Int) - 1)) = _; congr 2; omega)) (ix_nat hq)
        have lt := ev_cmp_d (op := .LtE) (ev_var r3) sb (ordD_strs (fun x y => !PySem.W.dataLt y x) ss zs)
        have a := ev_and_b g fun _ => lt
        rw [exs_cons, ex_iff_b a]
        dsimp only
        cases hlt : PySem.W.dataLt (D.py (.tup (zs.map .str))) (D.py (.tup (ss.map .str))) with
        | false =>
          refine .inl ⟨by rfl, [.dic (kn.map kvT)], ?_⟩
          rw [if_pos (by rfl), exs_ret (ex_ret_d (ev_var r2))]
          rfl
        | true =>
          refine .inr ⟨by rfl, by first | rfl | trivial, Z', ?_, k2, k3, k4⟩
          rw [if_neg (by decide), exs_nil, O.then_nx, last]
theorem bad_loop {G : Gt} {F : List D → Option (Except Xv D)} (hG : G.fp "is_group" = some F) (hF : ∀ x, okG x = true → F [x] = some (.ok (.bl (groupB x)))) {ds : List D} :
    ∀ (r : List D) (i : Nat) (p : Option D) (kn : List Str) (ro : Ro), r = ds.drop i → ds.length ≤ 100 → (∀ d ∈ r, okG d = true) → ((i = 0 ∧ p = none) ∨ ∃ q j, i = j + 1 ∧ ds[j]? = some q ∧ p = some q ∧ groupB q = true) → kn.length ≤ 4 * i → ro.length = 5 → ro[0]? = some (some (.d (.tup ds))) → ro[1]? = some (some (.cell 0)) →
      (∃ k st', badFrom i p kn r = some k ∧ forRun (exs G badLoop) (.cons (.nm 2) (.cons (.nm 3) .nil)) (enumFrom i r) ro [.dic (kn.map kvT)] = .ret (.d (.int (k : Nat))) st') ∨
      (badFrom i p kn r = none ∧ ∃ ro' st', forRun (exs G badLoop) (.cons (.nm 2) (.cons (.nm 3) .nil)) (enumFrom i r) ro [.dic (kn.map kvT)] = .nx ro' st')
  | [], i, p, kn, ro, _, _, _, _, _, _, _, _ => .inr ⟨rfl, ro, _, rfl⟩
  | d :: r, i, p, kn, ro, hr, h6, ho, hp, hk, hl, h0, h1 => by
    have hi : ds[i]? = some d := by
      have : (ds.drop i)[0]? = some d := by rw [← hr]; rfl
      rw [List.getElem?_drop] at this
      simpa using this
    have hlt : i < ds.length := (List.getElem?_eq_some_iff.mp hi).1
    have hr' : r = ds.drop (i + 1) := by
      have := congrArg List.tail hr
      rw [List.tail_drop] at this
      exact this
    have ht := bad_turn (kn := kn) hG hF hl h0 h1 (ho d (by simp)) hi hp (by omega)
    have as : asgT (.cons (.nm 2) (.cons (.nm 3) .nil)) (.tup [.int (i : Nat), d]) ro = some ((ro.set 2 (some (.d (.int (i : Nat))))).set 3 (some (.d d))) := by simp [asgT, asgTs, hl]
    rcases ht with ⟨b, st', e⟩ | ⟨b, hg, ro2, e, l2, k0, k1⟩
    · refine .inl ⟨i, st', by simp only [badFrom, b, if_true], ?_⟩
      simp only [enumFrom, forRun, as, e, turn_ret]
    · have hn := names_len hg
      have ih := bad_loop hG hF r (i + 1) (some d) (kn ++ namesOf d) ro2 hr' h6 (fun x hx => ho x (by simp [hx])) (.inr ⟨d, i, rfl, hi, rfl, hg⟩) (by rw [List.length_append]; omega) l2 k0 k1
      simp only [enumFrom, forRun, as, e, turn_nx, badFrom, b, Bool.false_eq_true, if_false]
      exact ih
def numV : Option Nat → D
  | none => .non
  | some i => .int i
theorem bad_ok {G : Gt} {F : List D → Option (Except Xv D)} (hG : G.fp "is_group" = some F) (hF : ∀ x, okG x = true → F [x] = some (.ok (.bl (groupB x)))) (ds : List D) (hx : okT (.tup ds) = true) (hl : ds.length ≤ 100) :
    runP G 5 1 badBody [.tup ds] = some (.ok (numV (badFrom 0 none [] ds))) := by
  unfold runP badBody
  rw [if_pos (show [D.tup ds].length = 1 from rfl)]
  have i0 : ini 5 ([D.tup ds].map W.d) = [some (.d (.tup ds)), none, none, none, none] := rfl
  rw [i0]
  have s1 : ex G (.set 1 .ndic) [some (.d (.tup ds)), none, none, none, none] [] = .nx [some (.d (.tup ds)), some (.cell 0), none, none, none] [.dic []] := by simp [ex, ev, setRo]
  rw [exs_nx s1]
  have ei : evi G (.enm (.var 0)) [some (.d (.tup ds)), some (.cell 0), none, none, none] [.dic []] = .ok (enumFrom 0 ds) [.dic []] := by simp [evi, ev, enmD, keepD]
  have hl := bad_loop hG hF ds 0 none [] [some (.d (.tup ds)), some (.cell 0), none, none, none] rfl hl (List.all_eq_true.mp hx) (.inl ⟨rfl, rfl⟩) (by simp) rfl rfl rfl
  rw [List.map_nil] at hl
  rw [exs_cons, ex_for, ei, R.o_ok]
  rcases hl with ⟨k, st', h1, h2⟩ | ⟨h1, ro', st', h2⟩
  · rw [h1, h2, then_ret]; rfl
  · rw [h1, h2, O.then_nx, exs_ret (ex_ret_d ev_non)]; rfl
end Ev
set_option linter.all false
set_option maxRecDepth 100000
set_option maxHeartbeats 1000000
namespace Ev
open PySem
/-! ### need_calls, is_calls, group_of -/
def areB : D → Bool
  | .tup ds => decide ((ds.length : Int) ≤ 6)
  | _ => false
def areBody : Ss := (.cons (.ret (.and2 (.isi (.var 0) .tuple) (.cmp .LtE (.bi .len (.cons (.var 0) .nil)) (.glob "MOST_GROUPS")))) .nil)
def needBody : Ss := (.cons (.iff (.not (.callP "are_calls" (.cons (.var 0) .nil))) (.cons (.raise_ "BadCalls" (.cons .non .nil)) .nil) .nil) (.cons (.set 1 (.callP "bad_group" (.cons (.var 0) .nil))) (.cons (.iff (.cmp .IsNot (.var 1) .non) (.cons (.raise_ "BadCalls" (.cons (.var 1) .nil)) .nil) .nil) .nil)))
def isCallsBody : Ss := (.cons (.ret (.and2 (.callP "are_calls" (.cons (.var 0) .nil)) (.cmp .Is (.callP "bad_group" (.cons (.var 0) .nil)) .non))) .nil)
def groupInBody : Ss := (.cons (.set 2 (.lc [3] (.nm 3) (.it (.var 0)) (.cmp .In (.var 1) (.var 3)) (.var 3))) (.cons (.ret (.ite (.cmp .NotEq (.var 2) (.lst .nil)) (.sub (.var 2) (.int 0)) (.tup (.cons (.var 1) .nil)))) .nil))
def groupOfBody : Ss := (.cons (.expr (.callP "need_calls" (.cons (.var 0) .nil))) (.cons (.iff (.not (.callP "is_name" (.cons (.var 1) .nil))) (.cons (.raise_ "OutOfPlace" (.cons (.str "no name") .nil)) .nil) .nil) (.cons (.ret (.callP "group_in" (.cons (.var 0) (.cons (.var 1) .nil)))) .nil)))
def xBad (d : D) : Xv := ⟨"BadCalls", ["number"], [d]⟩
def needV : Option (Option Nat) → Except Xv D
  | none => .ok .non
  | some none => .error (xBad .non)
  | some (some i) => .error (xBad (.int (i : Nat)))
theorem are_ok {G : Gt} (h1 : G.con "MOST_GROUPS" = some (.int 6)) (x : D) (hx : okT x = true) : runP G 1 1 areBody [x] = some (.ok (.bl (areB x))) := by
  by_cases hs : ∃ ds, x = .tup ds
  · obtain ⟨ds, rfl⟩ := hs
    unfold runP areBody
    rw [if_pos (show [D.tup ds].length = 1 from rfl)]
    have i0 : ini 1 ([D.tup ds].map W.d) = [some (.d (.tup ds))] := rfl
    rw [i0]
    have a := ev_and_b (G := G) (ro := [some (.d (.tup ds))]) (st := []) (a := .isi (.var 0) .tuple) (b := .cmp .LtE (.bi .len (.cons (.var 0) .nil)) (.glob "MOST_GROUPS")) (p := true) (ev_isi_d (x := .tup ds) (ev_var rfl) rfl) fun _ => ev_cmp_d (ev_bi1 (ev_var rfl) (len_tup ds)) (ev_glob_d h1) (cmp_le _ _)
    rw [exs_ret (ex_ret_d a)]
    rfl
  · cases x <;> first | rfl | exact absurd ⟨_, rfl⟩ hs | cases hx
theorem calls_not {x : D} (h : areB x = false) : callsX x = some none := by
  cases x with
  | tup ds =>
    simp only [areB, decide_eq_false_iff_not] at h
    simp only [callsX]
    rw [if_neg (by omega)]
  | _ => rfl
theorem calls_are {x : D} (h : areB x = true) : ∃ ds, x = .tup ds ∧ ds.length ≤ 6 ∧ callsX x = (badFrom 0 none [] ds).map some := by
  cases x with
  | tup ds =>
    simp only [areB, decide_eq_true_eq] at h
    exact ⟨ds, rfl, by omega, by simp only [callsX]; rw [if_pos (by omega)]⟩
  | _ => cases h
theorem need_ok {G : Gt} {F1 F2 : List D → Option (Except Xv D)} (h1 : G.fp "are_calls" = some F1) (h2 : G.fp "bad_group" = some F2) (hm : G.mke "BadCalls" = some (.ini "number" [])) (hF1 : ∀ x, okT x = true → F1 [x] = some (.ok (.bl (areB x)))) (hF2 : ∀ ds, okT (.tup ds) = true → ds.length ≤ 100 → F2 [.tup ds] = some (.ok (numV (badFrom 0 none [] ds)))) (x : D) (hx : okT x = true) :
    runP G 2 1 needBody [x] = some (needV (callsX x)) := by
  unfold runP needBody
  rw [if_pos (show [x].length = 1 from rfl)]
  have i0 : ini 2 ([x].map W.d) = [some (.d x), none] := rfl
  rw [i0]
  have c := ev_not_b (ev_callP1 (G := G) (ro := [some (.d x), none]) (st := []) h1 (ev_var (i := 0) rfl) (hF1 x hx))
  rw [exs_cons, ex_iff_b c]
  cases ha : areB x with
  | false =>
    have rs := ex_raise (G := G) (ro := [some (.d x), none]) (st := []) (es := .cons .non .nil) (ds := [.non]) (ks := ["number"]) (xs := [.non]) hm (evs_d ev_non evs_0) (by rfl)
    rw [if_pos (by rfl), exs_cons, rs, then_exc, then_exc, calls_not ha]
    rfl
  | true =>
    obtain ⟨ds, rfl, h6, hc⟩ := calls_are ha
    rw [if_neg (by decide), exs_nil, O.then_nx, hc]
    have s1 := ex_set_d (G := G) (ro := [some (.d (.tup ds)), none]) (st := []) (i := 1) (ev_callP1 h2 (ev_var (i := 0) rfl) (hF2 ds hx (by omega))) (show 1 < 2 by decide)
    rw [exs_nx s1]
    cases hb : badFrom 0 none [] ds with
    | none =>
      have c2 := ev_cmp_d (op := .IsNot) (G := G) (ro := [some (.d (.tup ds)), some (.d .non)]) (st := []) (a := .var 1) (b := .non) (ev_var rfl) ev_non (cmp_isnot .non)
      have e : exs G (.cons (.iff (.cmp .IsNot (.var 1) .non) (.cons (.raise_ "BadCalls" (.cons (.var 1) .nil)) .nil) .nil) .nil) [some (.d (.tup ds)), some (.d .non)] [] = .nx [some (.d (.tup ds)), some (.d .non)] [] := by
        rw [exs_cons, ex_iff_b c2, if_neg (by decide), exs_nil, O.then_nx, exs_nil]
      show outP (exs G _ [some (.d (.tup ds)), some (.d .non)] []) = _
      rw [e]; rfl
    | some k =>
      have c2 := ev_cmp_d (op := .IsNot) (G := G) (ro := [some (.d (.tup ds)), some (.d (.int (k : Nat)))]) (st := []) (a := .var 1) (b := .non) (ev_var rfl) ev_non (cmp_isnot (.int (k : Nat)))
      have rs := ex_raise (G := G) (ro := [some (.d (.tup ds)), some (.d (.int (k : Nat)))]) (st := []) (es := .cons (.var 1) .nil) (ds := [.int (k : Nat)]) (ks := ["number"]) (xs := [.int (k : Nat)]) hm (evs_d (ev_var rfl) evs_0) (by rfl)
      have e : exs G (.cons (.iff (.cmp .IsNot (.var 1) .non) (.cons (.raise_ "BadCalls" (.cons (.var 1) .nil)) .nil) .nil) .nil) [some (.d (.tup ds)), some (.d (.int (k : Nat)))] [] = .exc (xBad (.int (k : Nat))) [some (.d (.tup ds)), some (.d (.int (k : Nat)))] [] := by
        rw [exs_cons, ex_iff_b c2, if_pos (by rfl), exs_cons, rs, then_exc, then_exc]; rfl
      show outP (exs G _ [some (.d (.tup ds)), some (.d (.int (k : Nat)))] []) = _
      rw [e]; rfl
theorem is_calls_ok {G : Gt} {F1 F2 : List D → Option (Except Xv D)} (h1 : G.fp "are_calls" = some F1) (h2 : G.fp "bad_group" = some F2) (hF1 : ∀ x, okT x = true → F1 [x] = some (.ok (.bl (areB x)))) (hF2 : ∀ ds, okT (.tup ds) = true → ds.length ≤ 100 → F2 [.tup ds] = some (.ok (numV (badFrom 0 none [] ds)))) (x : D) (hx : okT x = true) :
    runP G 1 1 isCallsBody [x] = some (.ok (.bl (callsX x).isNone)) := by
  unfold runP isCallsBody
  rw [if_pos (show [x].length = 1 from rfl)]
  have i0 : ini 1 ([x].map W.d) = [some (.d x)] := rfl
  rw [i0]
  have c := ev_callP1 (G := G) (ro := [some (.d x)]) (st := []) h1 (ev_var (i := 0) rfl) (hF1 x hx)
  cases ha : areB x with
  | false =>
    rw [ha] at c
    rw [exs_ret (ex_ret_d (ev_and_b (q := false) c fun z => by cases z)), calls_not ha]
    rfl
  | true =>
    rw [ha] at c
    obtain ⟨ds, rfl, h6, hc⟩ := calls_are ha
    have c2 := ev_cmp_d (op := .Is) (b := .non) (ev_callP1 (G := G) (ro := [some (.d (.tup ds))]) (st := []) h2 (ev_var (i := 0) rfl) (hF2 ds hx (by omega))) ev_non (cmp_is _)
    rw [exs_ret (ex_ret_d (ev_and_b c fun _ => c2)), hc]
    cases badFrom 0 none [] ds <;> rfl
/-! ### what valid calls are -/
theorem bad_none : ∀ (r : List D) (i : Nat) (p : Option D) (kn : List Str), badFrom i p kn r = none → ∀ d ∈ r, groupB d = true
  | [], _, _, _, _, d, h => by cases h
  | d :: r, i, p, kn, h, x, hx => by
    simp only [badFrom] at h
    split at h
    · cases h
    · rename_i hb
      rcases List.mem_cons.mp hx with rfl | hx
      · cases hg : groupB x with
        | true => rfl
        | false => simp [badB, hg] at hb
      · exact bad_none r _ _ _ h x hx
theorem calls_valid {x : D} (h : callsX x = none) : ∃ ds, x = .tup ds ∧ ds.length ≤ 6 ∧ (∀ d ∈ ds, groupB d = true) ∧ badFrom 0 none [] ds = none := by
  cases x with
  | tup ds =>
    simp only [callsX] at h
    split at h
    · rename_i h6
      have hb : badFrom 0 none [] ds = none := by
        cases q : badFrom 0 none [] ds with
        | none => rfl
        | some k => rw [q] at h; cases h
      exact ⟨ds, rfl, h6, bad_none ds 0 none [] hb, hb⟩
    · cases h
  | _ => cases h
def hasN (w : Str) (d : D) : Bool := (namesOf d).any fun y => y == w
def groupV (ds : List D) (w : Str) : D := ((ds.find? (hasN w)).getD (.tup [.str w]))
theorem in_group {d : D} (h : groupB d = true) (w : Str) : cmpD .In (.str w) d = some (hasN w d) := by
  obtain ⟨ss, rfl, _, _, _, _⟩ := group_strs h
  unfold hasN
  rw [namesOf_strs]
  exact in_strs w ss
theorem group_in_ok {G : Gt} (ds : List D) (w : Str) (hg : ∀ d ∈ ds, groupB d = true) (h6 : ds.length ≤ 6) : runP G 4 2 groupInBody [.tup ds, .str w] = some (.ok (groupV ds w)) := by
  unfold runP groupInBody
  rw [if_pos (show [D.tup ds, D.str w].length = 2 from rfl)]
  have i0 : ini 4 ([D.tup ds, D.str w].map W.d) = [some (.d (.tup ds)), some (.d (.str w)), none, none] := rfl
  rw [i0]
  have c : ev G (.lc [3] (.nm 3) (.it (.var 0)) (.cmp .In (.var 1) (.var 3)) (.var 3)) [some (.d (.tup ds)), some (.d (.str w)), none, none] [] = .ok (.d (.lst (ds.filter (hasN w)))) [] := by
    have := ev_lc (G := G) (own := [3]) (t := .nm 3) (it := .it (.var 0)) (c := .cmp .In (.var 1) (.var 3)) (e := .var 3) (ro := [some (.d (.tup ds)), some (.d (.str w)), none, none]) (st := []) ds (hasN w) (fun d => d) (by simp [evi, ev]) (by omega) fun y hm =>
      ⟨[some (.d (.tup ds)), some (.d (.str w)), none, some (.d y)], by rfl, ev_cmp_d (ev_var rfl) (ev_var rfl) (in_group (hg y hm) w), fun _ => ev_var rfl⟩
    rw [List.map_id'] at this
    exact this
  rw [exs_nx (ex_set_d c (show 2 < 4 by decide))]
  have c2 := ev_cmp_d (op := .NotEq) (G := G) (ro := [some (.d (.tup ds)), some (.d (.str w)), some (.d (.lst (ds.filter (hasN w)))), none]) (st := []) (a := .var 2) (b := .lst .nil) (ev_var rfl) ev_lst0 (ne_nilD _)
  have e := ev_ite_d (G := G) (ro := [some (.d (.tup ds)), some (.d (.str w)), some (.d (.lst (ds.filter (hasN w)))), none]) (st := []) (a := .sub (.var 2) (.int 0)) (b := .tup (.cons (.var 1) .nil)) (x := (ds.find? (hasN w)).getD .non) (y := .tup [.str w]) c2 (fun z => by
      have hne : ds.filter (hasN w) ≠ [] := fun q => by rw [q] at z; cases z
      have hh : (ds.filter (hasN w))[0]? = ds.find? (hasN w) := by rw [← List.head?_eq_getElem?, List.head?_filter]
      have hl : 0 < (ds.filter (hasN w)).length := List.length_pos_iff.mpr hne
      refine ev_sub_d (x := .lst (ds.filter (hasN w))) (ev_var rfl) (ev_int 0) ?_
      obtain ⟨v, k1, k2, _⟩ := ix_mem (ds := ds.filter (hasN w)) (d := 0) (by decide) (by omega)
      rw [k1, ← hh]
      have k3 : (ds.filter (hasN w))[0]? = some v := k2
      rw [k3]; rfl) (fun z => by simp [ev_tup, evs_cons, evs_nil, ev_var (G := G) (ro := [some (.d (.tup ds)), some (.d (.str w)), some (.d (.lst (ds.filter (hasN w)))), none]) (st := []) (i := 1) rfl])
  show outP (exs G _ [some (.d (.tup ds)), some (.d (.str w)), some (.d (.lst (ds.filter (hasN w)))), none] []) = _
  rw [exs_ret (ex_ret_d e), outP_ret]
  unfold groupV
  cases hf : ds.find? (hasN w) with
  | none =>
    have : ds.filter (hasN w) = [] := by
      rw [List.filter_eq_nil_iff]
      exact fun a ha q => by
        have := List.find?_eq_none.mp hf a ha
        exact this q
    rw [this]; rfl
  | some d =>
    have : ds.filter (hasN w) ≠ [] := fun q => by
      have h1 : (ds.filter (hasN w)).head? = some d := by rw [List.head?_filter, hf]
      rw [q] at h1; cases h1
    have e2 : (ds.filter (hasN w)).isEmpty = false := by
      cases q : ds.filter (hasN w) with
      | nil => exact absurd q this
      | cons _ _ => rfl
    rw [e2]; rfl
end Ev
set_option linter.all false
set_option maxRecDepth 100000
set_option maxHeartbeats 1000000
namespace Ev
open PySem
/-! ### a drawn word -/
def sg1 (c : Nat) : Str := ⟨#[c]⟩
theorem join_signs : ∀ cs : List Nat, (Str.join "" (cs.map sg1)).cps.toList = cs
  | [] => rfl
  | [c] => rfl
  | c :: d :: r => by
    have ih := join_signs (d :: r)
    show (sg1 c ++ ("" : Str) ++ Str.join "" (sg1 d :: r.map sg1)).cps.toList = _
    simp only [Str.cps_append, Array.toList_append]
    have e : (Str.join "" (sg1 d :: r.map sg1)).cps.toList = d :: r := ih
    rw [e]
    rfl
theorem strs_signs (cs : List Nat) : (cs.map fun c => D.str (sg1 c)) = (cs.map sg1).map .str := by rw [List.map_map]; rfl
theorem join_ok (cs : List Nat) (h : cs.length ≤ 1000) : ∃ w : Str, mtD .join (.str "") [.lst (cs.map fun c => D.str (sg1 c))] = some (.str w) ∧ w.cps.toList = cs := by
  refine ⟨Txt.join "" (cs.map sg1), ?_, ?_⟩
  · show joinD1 "" _ = _
    unfold joinD1
    rw [strs_signs, strsOf_strs]
    refine if_pos (decide_eq_true ?_)
    have z : ("" : Str).length = 0 := rfl
    have e : ((cs.map sg1).map (·.length)).sum = cs.length := by
      clear h
      induction cs with
      | nil => rfl
      | cons c cs ih =>
        simp only [List.map_cons, List.sum_cons, ih, List.length_cons]
        have : (sg1 c).length = 1 := rfl
        omega
    rw [e, z]
    omega
  · have e : Txt.join "" (cs.map sg1) = Str.join "" (cs.map sg1) := StrLaws.glued_eq_join _ _
    rw [e, join_signs]
theorem let_len : LET.length = 26 := by decide +kernel
theorem ix_let (d : Int) (h0 : 0 ≤ d) (h1 : d < 26) : ∃ c, ixD (.str LET) (.int d) = some (.str (sg1 c)) ∧ c ∈ LET.cps.toList := by
  have hl : LET.cps.toList.length = 26 := let_len
  have hd : d.toNat < LET.cps.toList.length := by omega
  refine ⟨LET.cps.toList[d.toNat], ?_, List.getElem_mem hd⟩
  show (if LET.length ≤ sizeLine then (L2.atI LET.cps.toList d).map (fun c => D.str ⟨#[c]⟩) else none) = _
  rw [if_pos (by rw [let_len, sizeLine_eq]; decide)]
  have : L2.atI LET.cps.toList d = some LET.cps.toList[d.toNat] := by
    unfold L2.atI L2.ixN
    rw [if_pos h0, if_pos (by omega)]
    exact List.getElem?_eq_getElem hd
  rw [this]; rfl
theorem intsFrom_len' : ∀ (n : Nat) (lo : Int), (intsFrom lo n).length = n
  | 0, _ => rfl
  | n + 1, lo => by simp [intsFrom, intsFrom_len' n (lo + 1)]
def signsM : M := .lc [2] (.nm 2) (.rng1 (.bin .Add (.int 1) (.callS "_law_digit" (.cons (.var 0) (.cons (.int 8) .nil))))) (.bl true) (.sub (.str "abcdefghijklmnopqrstuvwxyz") (.callS "_law_digit" (.cons (.var 0) (.cons (.int 26) .nil))))
theorem signs_ok {G Gd Gm : Gt} (hf : G.fs "_law_digit" = some (digitF Gd)) (hm : Gd.fp "_law_mixed" = some (mixedF Gm)) {ro : Ro} {st : Store} {n : Nat} {T : Int} (h0 : ro[0]? = some (some (.cell n))) (hr : ro.length = 3) (hd : Drw st n T) (hT : T < 2 ^ 40) :
    ∃ (cs : List Nat) (st' : Store), ev G signsM ro st = .ok (.d (.lst (cs.map fun c => D.str (sg1 c)))) st' ∧ 1 ≤ cs.length ∧ cs.length ≤ 8 ∧ (∀ c ∈ cs, c ∈ LET.cps.toList) ∧ Drw st' n (T + 100) ∧ Oth n st st' := by
  obtain ⟨d, st1, e1, d0, d1, w1, o1⟩ := ev_digit (m := .int 8) (many := 8) hf hm h0 (ev_int 8) hd (by decide) (by omega)
  have ei : evi G (.rng1 (.bin .Add (.int 1) (.callS "_law_digit" (.cons (.var 0) (.cons (.int 8) .nil))))) ro st = .ok (intsFrom 0 (1 + d).toNat) st1 := by
    have eb : ev G (.bin .Add (.int 1) (.callS "_law_digit" (.cons (.var 0) (.cons (.int 8) .nil)))) ro st = .ok (.d (.int (1 + d))) st1 := by
      rw [ev_bin, ev_int, R.bind_ok, e1, R.bind_ok, opt2_dd]; rfl
    simp only [evi, eb, R.bind_ok, peek_d]
    rw [if_pos (by constructor <;> omega)]
  have hn : (intsFrom 0 (1 + d).toNat).length = (1 + d).toNat := intsFrom_len' _ _
  obtain ⟨ds, st', k1, cs, rfl, kl, kc, kd, ko⟩ := ev_lcS (G := G) (own := [2]) (t := .nm 2) (e := .sub (.str "abcdefghijklmnopqrstuvwxyz") (.callS "_law_digit" (.cons (.var 0) (.cons (.int 26) .nil)))) (ro := ro) (st := st) (st1 := st1)
    (J := fun i s acc => ∃ cs : List Nat, acc = cs.map (fun c => D.str (sg1 c)) ∧ cs.length = i ∧ (∀ c ∈ cs, c ∈ LET.cps.toList) ∧ Drw s n (T + 4 + 4 * i) ∧ Oth n st1 s) ei (by omega)
    (fun i x hx s acc ⟨cs, e, hl, hc, hw, ho⟩ => by
      have hi : i < (1 + d).toNat := by rw [← hn]; exact (List.getElem?_eq_some_iff.mp hx).1
      have g0 : ((wipeW ro [2]).set 2 (some (.d x)))[0]? = some (some (.cell n)) := by simp [wipeW, h0]
      obtain ⟨q, s2, e2, q0, q1, w2, o2⟩ := ev_digit (m := .int 26) (many := 26) hf hm g0 (ev_int 26) hw (by decide) (by omega)
      obtain ⟨c, hc1, hc2⟩ := ix_let q q0 q1
      refine ⟨(wipeW ro [2]).set 2 (some (.d x)), .str (sg1 c), s2, by simp [asgT, wipeW, hr], ?_, cs ++ [c], by rw [e]; simp, by simp [hl], ?_, ?_, ho.trans o2⟩
      · rw [ev_sub, ev_str, R.bind_ok, e2, R.bind_ok, opt2_dd]
        have : ixD (.str "abcdefghijklmnopqrstuvwxyz") (.int q) = some (.str (sg1 c)) := hc1
        rw [this, okD_some]
      · intro y hy
        rcases List.mem_append.mp hy with z | z
        · exact hc y z
        · rw [List.mem_singleton.mp z]; exact hc2
      · have : T + 4 + 4 * (i : Int) + 4 = T + 4 + 4 * ((i + 1 : Nat) : Int) := by omega
        rw [← this]; exact w2) ⟨[], rfl, rfl, fun _ h => (by cases h), by simpa using w1, Oth.refl⟩
  rw [hn] at kl kd
  refine ⟨cs, st', k1, by omega, by omega, kc, ?_, o1.trans ko⟩
  obtain ⟨l, c, t, a1, a2, a3, a4⟩ := kd
  exact ⟨l, c, t, a1, a2, a3, by omega⟩
theorem name_signs {w : Str} (h1 : 1 ≤ w.cps.toList.length) (h8 : w.cps.toList.length ≤ 8) (hc : ∀ c ∈ w.cps.toList, c ∈ LET.cps.toList) : nameB (.str w) = true := by
  have e : w.length = w.cps.toList.length := rfl
  simp only [nameB, Bool.and_eq_true, decide_eq_true_eq]
  refine ⟨⟨by omega, by omega⟩, ?_⟩
  unfold allIn
  rw [List.all_eq_true]
  exact fun c h => decide_eq_true (hc c h)
theorem Drw.up {st : Store} {n : Nat} {T U : Int} (h : Drw st n T) (k : T ≤ U) : Drw st n U := by
  obtain ⟨l, c, t, a1, a2, a3, a4⟩ := h
  exact ⟨l, c, t, a1, a2, a3, by omega⟩
end Ev
set_option linter.all false
set_option maxRecDepth 100000
set_option maxHeartbeats 1000000
namespace Ev
open PySem
/-! ### sorted groups are calls -/
theorem leD_trans (a b c : D) (h : leD a b = true) (k : leD b c = true) : leD a c = true := (PySem.W.sortLe_total (PyProof.Rows.listOrd PyProof.Rows.itemOrd) false fun b => PySem.W.keyToks (D.py b)).trans a b c h k
theorem leD_total (a b : D) : (leD a b || leD b a) = true := by
  rw [Bool.or_eq_true]
  exact (PySem.W.sortLe_total (PyProof.Rows.listOrd PyProof.Rows.itemOrd) false fun b => PySem.W.keyToks (D.py b)).total a b
def tupS (ss : List Str) : D := .tup (ss.map .str)
theorem toks_inj : ∀ xs ys : List Str, PySem.W.keyToksAll (D.pys (xs.map .str)) = PySem.W.keyToksAll (D.pys (ys.map .str)) → xs = ys
  | [], [], _ => rfl
  | [], y :: ys, h => by simp [D.pys, PySem.W.keyToksAll] at h
  | x :: xs, [], h => by simp [D.pys, PySem.W.keyToksAll] at h
  | x :: xs, y :: ys, h => by
    simp only [List.map_cons, D.pys, D.py, PySem.W.keyToksAll, PySem.W.keyToks, List.cons_append, List.nil_append, List.cons.injEq, Sum.inr.injEq, true_and] at h
    obtain ⟨h1, h2⟩ := h
    rw [toks_inj xs ys h2, PySem.W.str_of_cps h1]
theorem lt_of_le_ne {xs ys : List Str} (h : leD (tupS xs) (tupS ys) = true) (ne : xs ≠ ys) : PySem.W.dataLt (tupS xs).py (tupS ys).py = true := by
  cases q : PySem.W.dataLt (tupS xs).py (tupS ys).py with
  | true => rfl
  | false =>
    have h' : PySem.W.dataLt (tupS ys).py (tupS xs).py = false := by
      have : (!PySem.W.dataLt (tupS ys).py (tupS xs).py) = true := h
      simpa using this
    exact absurd (toks_inj xs ys ((PyProof.Rows.listOrd PyProof.Rows.itemOrd).total _ _ q h')) ne
structure GoodG (g : List Str) : Prop where
  two : 2 ≤ g.length
  four : g.length ≤ 4
  nm : (g.map D.str).all nameB = true
  ris : risingB (g.map .str) = true
theorem GoodG.group {g : List Str} (h : GoodG g) : groupB (tupS g) = true := by
  have h1 := h.two
  have h2 := h.four
  simp only [tupS, groupB, Bool.and_eq_true, decide_eq_true_eq, List.length_map]
  exact ⟨⟨by omega, by omega⟩, h.nm, h.ris⟩
theorem chain_none : ∀ (gs : List (List Str)) (i : Nat) (kn : List Str) (p : Option D), (∀ g ∈ gs, GoodG g) → (kn ++ gs.flatten).Nodup → gs.Pairwise (fun a b => leD (tupS a) (tupS b) = true) →
    (p = none ∨ ∃ qs, p = some (tupS qs) ∧ (∀ g ∈ gs, leD (tupS qs) (tupS g) = true) ∧ ∀ n ∈ qs, n ∈ kn) → badFrom i p kn (gs.map tupS) = none
  | [], _, _, _, _, _, _, _ => rfl
  | g :: gs, i, kn, p, hg, hn, hp, hq => by
    have gg := hg g (by simp)
    rw [List.flatten_cons, ← List.append_assoc] at hn
    have fresh : ∀ n ∈ g, n ∉ kn := fun n h1 h2 => by
      have := (List.nodup_append.mp (List.nodup_append.mp hn).1).2.2
      exact this n h2 n h1 rfl
    have hb : badB (tupS g) p kn = false := by
      unfold badB
      rw [gg.group, show namesOf (tupS g) = g from namesOf_strs g]
      have e1 : (g.any fun n => kn.any fun y => y == n) = false := by
        rw [List.any_eq_false]
        intro n h1 h2
        obtain ⟨y, hy, e⟩ := List.any_eq_true.mp h2
        exact fresh n h1 (by rw [← eq_of_beq e]; exact hy)
      rw [e1]
      rcases hq with rfl | ⟨qs, rfl, q1, q2⟩
      · rfl
      · have ne : qs ≠ g := fun e => by
          obtain ⟨n, hn'⟩ : ∃ n, n ∈ g := by
            cases g with
            | nil => have := gg.two; simp at this
            | cons n r => exact ⟨n, by simp⟩
          exact fresh n hn' (q2 n (by rw [e]; exact hn'))
        have := lt_of_le_ne (q1 g (by simp)) ne
        simp [this]
    simp only [List.map_cons, badFrom, hb, Bool.false_eq_true, if_false]
    rw [show namesOf (tupS g) = g from namesOf_strs g]
    have pw := List.pairwise_cons.mp hp
    exact chain_none gs (i + 1) (kn ++ g) (some (tupS g)) (fun x hx => hg x (by simp [hx])) hn pw.2 (.inr ⟨g, rfl, pw.1, fun n h => List.mem_append_right _ h⟩)
theorem sort_groups {gs : List (List Str)} (hg : ∀ g ∈ gs, GoodG g) (hn : gs.flatten.Nodup) (h6 : gs.length ≤ 6) : biD .sorted [.lst (gs.map tupS)] = some (.lst ((gs.map tupS).mergeSort leD)) ∧ callsX (.tup ((gs.map tupS).mergeSort leD)) = none ∧ okT (.tup ((gs.map tupS).mergeSort leD)) = true ∧ ((gs.map tupS).mergeSort leD).length ≤ 6 := by
  have e : (gs.mergeSort fun a b => leD (tupS a) (tupS b)).map tupS = (gs.map tupS).mergeSort leD := List.map_mergeSort fun a _ b _ => rfl
  have pm := List.mergeSort_perm gs fun a b => leD (tupS a) (tupS b)
  have pw : (gs.mergeSort fun a b => leD (tupS a) (tupS b)).Pairwise fun a b => leD (tupS a) (tupS b) = true := List.pairwise_mergeSort (le := fun a b => leD (tupS a) (tupS b)) (fun a b c => leD_trans (tupS a) (tupS b) (tupS c)) (fun a b => leD_total (tupS a) (tupS b)) gs
  have hl : ((gs.map tupS).mergeSort leD).length = gs.length := by rw [List.length_mergeSort, List.length_map]
  refine ⟨?_, ?_, ?_, by omega⟩
  · show (if sortB (gs.map tupS) = true then some (D.lst ((gs.map tupS).mergeSort leD)) else none) = _
    rw [if_pos]
    unfold sortB
    simp only [Bool.and_eq_true, Bool.or_eq_true, List.all_eq_true, decide_eq_true_eq]
    refine ⟨fun d hd => ?_, fun d hd d' hd' => ?_, .inl fun d hd => ?_, by rw [List.length_map]; omega, fun d hd => ?_⟩
    · obtain ⟨g, hg', rfl⟩ := List.mem_map.mp hd; exact strs_nod g
    · obtain ⟨g, hg', rfl⟩ := List.mem_map.mp hd
      obtain ⟨g', hg'', rfl⟩ := List.mem_map.mp hd'
      exact alike_strs g g'
    · obtain ⟨g, hg', rfl⟩ := List.mem_map.mp hd
      have := (hg g hg').two
      cases g with
      | nil => simp at this
      | cons _ _ => rfl
    · obtain ⟨g, hg', rfl⟩ := List.mem_map.mp hd
      show PyData.depth (.tuple (D.pys (g.map .str))) ≤ 50
      simp only [PyData.depth, depth_strs]
      decide
  · simp only [callsX]
    rw [if_pos (by omega), ← e, chain_none _ 0 [] none (fun g h => hg g (pm.mem_iff.mp h)) (by rw [List.nil_append]; exact pm.flatten.nodup_iff.mpr hn) pw (.inl rfl)]
    rfl
  · show ((gs.map tupS).mergeSort leD).all okG = true
    rw [List.all_eq_true]
    intro d hd
    obtain ⟨g, hg', rfl⟩ := List.mem_map.mp ((List.mergeSort_perm _ _).mem_iff.mp hd)
    show (g.map D.str).all okX = true
    rw [List.all_eq_true]
    intro y hy
    have := List.all_eq_true.mp (hg g hg').nm y hy
    obtain ⟨w, _, rfl⟩ := List.mem_map.mp hy
    simp only [nameB, Bool.and_eq_true, decide_eq_true_eq] at this
    exact decide_eq_true (by omega)
end Ev
set_option linter.all false
set_option maxRecDepth 100000
set_option maxHeartbeats 1000000
namespace Ev
open PySem
theorem sorted_strs (g : List Str) (h : g.length ≤ 1000000) : biD .sorted [.lst (g.map .str)] = some (.lst ((sortT g).map .str)) := by
  show (if sortB (g.map .str) = true then some (D.lst ((g.map .str).mergeSort leD)) else none) = _
  have e : (sortT g).map D.str = (g.map .str).mergeSort leD := List.map_mergeSort fun a _ b _ => rfl
  rw [if_pos, e]
  unfold sortB
  simp only [Bool.and_eq_true, Bool.or_eq_true, List.all_eq_true, decide_eq_true_eq]
  refine ⟨fun d hd => ?_, fun d hd d' hd' => ?_, .inr fun d hd => ?_, by rw [List.length_map]; exact h, fun d hd => ?_⟩
  · obtain ⟨w, _, rfl⟩ := List.mem_map.mp hd; rfl
  · obtain ⟨w, _, rfl⟩ := List.mem_map.mp hd
    obtain ⟨w', _, rfl⟩ := List.mem_map.mp hd'
    simp [D.py, PySem.W.alike]
  · obtain ⟨w, _, rfl⟩ := List.mem_map.mp hd; rfl
  · obtain ⟨w, _, rfl⟩ := List.mem_map.mp hd
    show (0 : Nat) ≤ 50; decide
theorem sort_good {g : List Str} (h2 : 2 ≤ g.length) (h4 : g.length ≤ 4) (hn : g.Nodup) (hm : ∀ x ∈ g, nameB (.str x) = true) : GoodG (sortT g) := by
  have pm : (sortT g).Perm g := List.mergeSort_perm g leT
  have hl := pm.length_eq
  refine ⟨by omega, by omega, ?_, ?_⟩
  · rw [List.all_eq_true]
    intro y hy
    obtain ⟨w, hw, rfl⟩ := List.mem_map.mp hy
    exact hm w (pm.mem_iff.mp hw)
  · rw [rising_pw]
    exact ((sortT_pw g).and (pm.nodup_iff.mpr hn)).imp fun {a b} z => le_ne_lt z.1 z.2
theorem cutG_take {α : Type} (xs : List α) (j : Nat) : cutG xs none (some (j : Int)) = xs.take j := by
  unfold cutG
  rw [HT.sIx_none, HT.sIx_nat, List.drop_zero, Nat.sub_zero]
  by_cases h : j ≤ xs.length
  · rw [Nat.min_eq_left h]
  · rw [Nat.min_eq_right (by omega), List.take_of_length_le (Nat.le_refl _), List.take_of_length_le (by omega)]
theorem cutG_drop {α : Type} (xs : List α) (j : Nat) : cutG xs (some (j : Int)) none = xs.drop j := by
  unfold cutG
  rw [HT.sIx_none, HT.sIx_nat]
  by_cases h : j ≤ xs.length
  · rw [Nat.min_eq_left h]
    exact List.take_of_length_le (by simp)
  · rw [Nat.min_eq_right (by omega)]
    rw [List.drop_of_length_le (Nat.le_refl _), List.drop_of_length_le (by omega)]
    simp
section
variable {G : Gt} {ro : Ro} {st : Store} {a b : M} {w : W} {ds : List D} {j : Int}
theorem ev_slcLl (hb : isAbsent b = false) (ha : ev G a ro st = .ok w st) (hp : peek st w = some (.lst ds)) (hi : ev G b ro st = .ok (.d (.int j)) st) : ev G (.slc a .absent b) ro st = .ok (.d (.lst (cutG ds none (some j)))) st := by
  have p : part b (ev G b ro st) (fun h st3 => okD ((peek st3 w).bind fun x => slD x none h) st3) st = .ok (.d (.lst (cutG ds none (some j)))) st := by
    unfold part
    split
    · cases hb
    · rw [hi, R.bind_ok, peek_d]
      simp only [hp, Option.bind_some]; rfl
  simp only [ev, ha, R.bind_ok, part]
  exact p
theorem ev_slcRl (hb : isAbsent b = false) (ha : ev G a ro st = .ok w st) (hp : peek st w = some (.lst ds)) (hi : ev G b ro st = .ok (.d (.int j)) st) : ev G (.slc a b .absent) ro st = .ok (.d (.lst (cutG ds (some j) none))) st := by
  have p : part b (ev G b ro st) (fun l st2 => okD ((peek st2 w).bind fun x => slD x l none) st2) st = .ok (.d (.lst (cutG ds (some j) none))) st := by
    unfold part
    split
    · cases hb
    · rw [hi, R.bind_ok, peek_d]
      simp only [hp, Option.bind_some]; rfl
  simp only [ev, ha, R.bind_ok, part]
  exact p
theorem ev_bi1c {f : Bi} {x y : D} (ha : ev G a ro st = .ok w st) (hp : peek st w = some x) (h : biD f [x] = some y) : ev G (.bi f (.cons a .nil)) ro st = .ok (.d y) st := by
  simp only [ev_bi, evs_cons, evs_nil, ha, R.bind_ok, peekAll, hp, Option.bind_some, Option.map_some, h, okD_some]
theorem ex_app_d {m : M} {n : Nat} {d : D} {ds : List D} (ha : ev G a ro st = .ok (.cell n) st) (hs : st[n]? = some (.lst ds)) (hm : ev G m ro st = .ok (.d d) st) (hl : ds.length < 1000000) : ex G (.app a m) ro st = .nx ro (st.set n (.lst (ds ++ [d]))) := by
  simp only [ex, ha, R.o_ok]
  rw [if_pos (by simp [isLst, hs])]
  simp only [hm, R.o_ok, keepD_d, appC, hs]
  rw [if_pos hl]
theorem cmp_inL {k : M} {z : Str} {xs : List Str} {neg : Bool} (hk : ev G k ro st = .ok (.d (.str z)) st) (ha : ev G a ro st = .ok w st) (hp : peek st w = some (.lst (xs.map .str))) : ev G (.cmp .NotIn k a) ro st = .ok (.d (.bl (!xs.any fun y => y == z))) st := by
  rw [ev_cmp, hk, R.bind_ok, ha, R.bind_ok]
  show okB ((peek st (.d (.str z))).bind fun x => (peek st w).bind fun y => cmpD .NotIn x y) st = _
  rw [peek_d, Option.bind_some, hp, Option.bind_some]
  have : cmpD .NotIn (.str z) (.lst (xs.map .str)) = some (!xs.any fun y => y == z) := by
    have h := in_strs z xs
    show (inD (.str z) (.lst (xs.map .str))).map (!·) = _
    rw [show inD (.str z) (.lst (xs.map .str)) = some (xs.any fun x => x == z) from h]; rfl
  rw [this, okB_some]
end
theorem Drw.at {st st' : Store} {n : Nat} {T : Int} (h : Drw st n T) (e : st'[n]? = st[n]?) : Drw st' n T := by
  unfold Drw at h ⊢
  rw [e]; exact h
theorem Drw.lt {st : Store} {n : Nat} {T : Int} (h : Drw st n T) : n < st.length := by
  obtain ⟨l, c, t, e, _⟩ := h
  exact (List.getElem?_eq_some_iff.mp e).1
end Ev
set_option Elab.async false
set_option linter.all false
set_option maxRecDepth 100000
set_option maxHeartbeats 0

namespace HX
open PySem PySem.Spec PyProof.Rows L2
def top (i : Nat) : Stmt := PySem.Challenge.pw_heirlists_k02_calls_looked_at.main.body.getD i (.Pass ⟨0, 0, 0, 0⟩)
abbrev s_BadRow___init__ : Stmt := inClass (top 2) 0
def d_BadRow___init__ : He.DefD := ⟨("BadRow", some "__init__"), "__init__", "BadRow.__init__", defArgs s_BadRow___init__, defBody s_BadRow___init__, defScope s_BadRow___init__, [], []⟩
abbrev s_BadCalls___init__ : Stmt := inClass (top 3) 0
def d_BadCalls___init__ : He.DefD := ⟨("BadCalls", some "__init__"), "__init__", "BadCalls.__init__", defArgs s_BadCalls___init__, defBody s_BadCalls___init__, defScope s_BadCalls___init__, [], []⟩
abbrev s_BadPrices___init__ : Stmt := inClass (top 4) 0
def d_BadPrices___init__ : He.DefD := ⟨("BadPrices", some "__init__"), "__init__", "BadPrices.__init__", defArgs s_BadPrices___init__, defBody s_BadPrices___init__, defScope s_BadPrices___init__, [], []⟩
abbrev s_BadList___init__ : Stmt := inClass (top 5) 0
def d_BadList___init__ : He.DefD := ⟨("BadList", some "__init__"), "__init__", "BadList.__init__", defArgs s_BadList___init__, defBody s_BadList___init__, defScope s_BadList___init__, [], []⟩
abbrev s_BadWays___init__ : Stmt := inClass (top 6) 0
def d_BadWays___init__ : He.DefD := ⟨("BadWays", some "__init__"), "__init__", "BadWays.__init__", defArgs s_BadWays___init__, defBody s_BadWays___init__, defScope s_BadWays___init__, [], []⟩
abbrev s_BadSet___init__ : Stmt := inClass (top 7) 0
def d_BadSet___init__ : He.DefD := ⟨("BadSet", some "__init__"), "__init__", "BadSet.__init__", defArgs s_BadSet___init__, defBody s_BadSet___init__, defScope s_BadSet___init__, [], []⟩
abbrev s_BadPaper___init__ : Stmt := inClass (top 8) 0
def d_BadPaper___init__ : He.DefD := ⟨("BadPaper", some "__init__"), "__init__", "BadPaper.__init__", defArgs s_BadPaper___init__, defBody s_BadPaper___init__, defScope s_BadPaper___init__, [], []⟩
abbrev s_is_name : Stmt := top 16
def d_is_name : He.DefD := ⟨("is_name", none), "is_name", "is_name", defArgs s_is_name, defBody s_is_name, defScope s_is_name, [], []⟩
abbrev s_is_group : Stmt := top 20
def d_is_group : He.DefD := ⟨("is_group", none), "is_group", "is_group", defArgs s_is_group, defBody s_is_group, defScope s_is_group, [], []⟩
abbrev s_bad_group : Stmt := top 21
def d_bad_group : He.DefD := ⟨("bad_group", none), "bad_group", "bad_group", defArgs s_bad_group, defBody s_bad_group, defScope s_bad_group, [], []⟩
abbrev s_are_calls : Stmt := top 22
def d_are_calls : He.DefD := ⟨("are_calls", none), "are_calls", "are_calls", defArgs s_are_calls, defBody s_are_calls, defScope s_are_calls, [], []⟩
abbrev s_is_calls : Stmt := top 23
def d_is_calls : He.DefD := ⟨("is_calls", none), "is_calls", "is_calls", defArgs s_is_calls, defBody s_is_calls, defScope s_is_calls, [], []⟩
abbrev s_need_calls : Stmt := top 24
def d_need_calls : He.DefD := ⟨("need_calls", none), "need_calls", "need_calls", defArgs s_need_calls, defBody s_need_calls, defScope s_need_calls, [], []⟩
abbrev s_group_in : Stmt := top 25
def d_group_in : He.DefD := ⟨("group_in", none), "group_in", "group_in", defArgs s_group_in, defBody s_group_in, defScope s_group_in, [], []⟩
abbrev s_group_of : Stmt := top 26
def d_group_of : He.DefD := ⟨("group_of", none), "group_of", "group_of", defArgs s_group_of, defBody s_group_of, defScope s_group_of, [], []⟩
abbrev s__law_mixed : Stmt := top 28
def d__law_mixed : He.DefD := ⟨("_law_mixed", none), "_law_mixed", "_law_mixed", defArgs s__law_mixed, defBody s__law_mixed, defScope s__law_mixed, [], []⟩
abbrev s__law_kinds : Stmt := top 29
def d__law_kinds : He.DefD := ⟨("_law_kinds", none), "_law_kinds", "_law_kinds", defArgs s__law_kinds, defBody s__law_kinds, defScope s__law_kinds, [], []⟩
abbrev s__law_draw : Stmt := top 30
def d__law_draw : He.DefD := ⟨("_law_draw", none), "_law_draw", "_law_draw", defArgs s__law_draw, defBody s__law_draw, defScope s__law_draw, [], []⟩
abbrev s__law_digit : Stmt := top 31
def d__law_digit : He.DefD := ⟨("_law_digit", none), "_law_digit", "_law_digit", defArgs s__law_digit, defBody s__law_digit, defScope s__law_digit, [], []⟩
abbrev s__law_word : Stmt := top 32
def d__law_word : He.DefD := ⟨("_law_word", none), "_law_word", "_law_word", defArgs s__law_word, defBody s__law_word, defScope s__law_word, [], []⟩
abbrev s__law_calls : Stmt := top 33
def d__law_calls : He.DefD := ⟨("_law_calls", none), "_law_calls", "_law_calls", defArgs s__law_calls, defBody s__law_calls, defScope s__law_calls, [], []⟩
abbrev s__law_is_name : Stmt := top 34
def d__law_is_name : He.DefD := ⟨("_law_is_name", none), "_law_is_name", "_law_is_name", defArgs s__law_is_name, defBody s__law_is_name, defScope s__law_is_name, [], []⟩
abbrev s__law_is_group : Stmt := top 35
def d__law_is_group : He.DefD := ⟨("_law_is_group", none), "_law_is_group", "_law_is_group", defArgs s__law_is_group, defBody s__law_is_group, defScope s__law_is_group, [], []⟩
abbrev s__law_due : Stmt := top 36
def d__law_due : He.DefD := ⟨("_law_due", none), "_law_due", "_law_due", defArgs s__law_due, defBody s__law_due, defScope s__law_due, [], []⟩
abbrev s__law_bent : Stmt := top 37
def d__law_bent : He.DefD := ⟨("_law_bent", none), "_law_bent", "_law_bent", defArgs s__law_bent, defBody s__law_bent, defScope s__law_bent, [], []⟩
abbrev s__law_told : Stmt := top 38
def d__law_told : He.DefD := ⟨("_law_told", none), "_law_told", "_law_told", defArgs s__law_told, defBody s__law_told, defScope s__law_told, [], []⟩
abbrev s__law_right : Stmt := top 39
def d__law_right : He.DefD := ⟨("_law_right", none), "_law_right", "_law_right", defArgs s__law_right, defBody s__law_right, defScope s__law_right, [], []⟩
abbrev s_law : Stmt := top 40
def d_law : He.DefD := ⟨("law", none), "law", "law", defArgs s_law, defBody s_law, defScope s_law, [], []⟩
def fn_0 : List He.DefD := [d_BadRow___init__, d_BadCalls___init__, d_BadPrices___init__, d_BadList___init__, d_BadWays___init__, d_BadSet___init__, d_BadPaper___init__, d_is_name, d_is_group, d_bad_group, d_are_calls, d_is_calls, d_need_calls, d_group_in, d_group_of, d__law_mixed, d__law_kinds, d__law_draw, d__law_digit, d__law_word, d__law_calls, d__law_is_name, d__law_is_group, d__law_due, d__law_bent, d__law_told, d__law_right, d_law]
def fn : List He.DefD := fn_0
def fa_0 : List He.Fa := [.glo "is_name", .glo "is_group", .glo "bad_group", .glo "are_calls", .glo "is_calls", .glo "need_calls", .glo "group_in", .glo "group_of", .glo "_law_mixed", .glo "_law_kinds", .glo "_law_draw", .glo "_law_digit", .glo "_law_word", .glo "_law_calls", .glo "_law_is_name", .glo "_law_is_group", .glo "_law_due", .glo "_law_bent", .glo "_law_told", .glo "_law_right", .glo "law", .str "LETTERS" "abcdefghijklmnopqrstuvwxyz", .int "MOST_LETTERS" 8, .int "MOST_GROUPS" 6, .int "MOST_NAMES" 4, .free "ValueError", .free "all", .free "any", .free "bool", .free "enumerate"]
def fa_1 : List He.Fa := [.free "isinstance", .free "len", .free "list", .free "range", .free "repr", .free "set", .free "sorted", .free "str", .free "sum", .free "tuple", .free "zip", .glo "ListError", .keep "ListError", .glo "BadRow", .keep "BadRow", .glo "BadCalls", .keep "BadCalls", .glo "BadPrices", .keep "BadPrices", .glo "BadList", .keep "BadList", .glo "BadWays", .keep "BadWays", .glo "BadSet", .keep "BadSet", .glo "BadPaper", .keep "BadPaper", .glo "Twice", .keep "Twice", .glo "OutOfPlace"]
def fa_2 : List He.Fa := [.keep "OutOfPlace", .glo "TooGreat", .keep "TooGreat", .glo "Nothing", .keep "Nothing"]
def fa : List He.Fa := fa_0 ++ fa_1 ++ fa_2
def faB : List He.Fa := fa ++ Ev.blts.map He.Fa.free
def loose_0 : List Str := ["ListError", "BadRow", "BadCalls", "BadPrices", "BadList", "BadWays", "BadSet", "BadPaper", "Twice", "OutOfPlace", "TooGreat", "Nothing", "LETTERS", "MOST_LETTERS", "is_name", "MOST_GROUPS", "MOST_NAMES", "is_group", "bad_group", "are_calls", "is_calls", "need_calls", "group_in", "group_of", "_law_mixed", "_law_kinds", "_law_draw", "_law_digit", "_law_word", "_law_calls"]
def loose_1 : List Str := ["_law_is_name", "_law_is_group", "_law_due", "_law_bent", "_law_told", "_law_right"]
def loose : List Str := loose_0 ++ loose_1
def xs_ListError : List (Str × Str × Bool) := [("ListError", "ListError", true), ("ListError", "BadRow", false), ("ListError", "BadCalls", false), ("ListError", "BadPrices", false), ("ListError", "BadList", false), ("ListError", "BadWays", false), ("ListError", "BadSet", false), ("ListError", "BadPaper", false), ("ListError", "Twice", false), ("ListError", "OutOfPlace", false), ("ListError", "TooGreat", false), ("ListError", "Nothing", false)]
def xs_BadRow : List (Str × Str × Bool) := [("BadRow", "ListError", true), ("BadRow", "BadRow", true), ("BadRow", "BadCalls", false), ("BadRow", "BadPrices", false), ("BadRow", "BadList", false), ("BadRow", "BadWays", false), ("BadRow", "BadSet", false), ("BadRow", "BadPaper", false), ("BadRow", "Twice", false), ("BadRow", "OutOfPlace", false), ("BadRow", "TooGreat", false), ("BadRow", "Nothing", false)]
def xs_BadCalls : List (Str × Str × Bool) := [("BadCalls", "ListError", true), ("BadCalls", "BadRow", false), ("BadCalls", "BadCalls", true), ("BadCalls", "BadPrices", false), ("BadCalls", "BadList", false), ("BadCalls", "BadWays", false), ("BadCalls", "BadSet", false), ("BadCalls", "BadPaper", false), ("BadCalls", "Twice", false), ("BadCalls", "OutOfPlace", false), ("BadCalls", "TooGreat", false), ("BadCalls", "Nothing", false)]
def xs_BadPrices : List (Str × Str × Bool) := [("BadPrices", "ListError", true), ("BadPrices", "BadRow", false), ("BadPrices", "BadCalls", false), ("BadPrices", "BadPrices", true), ("BadPrices", "BadList", false), ("BadPrices", "BadWays", false), ("BadPrices", "BadSet", false), ("BadPrices", "BadPaper", false), ("BadPrices", "Twice", false), ("BadPrices", "OutOfPlace", false), ("BadPrices", "TooGreat", false), ("BadPrices", "Nothing", false)]
def xs_BadList : List (Str × Str × Bool) := [("BadList", "ListError", true), ("BadList", "BadRow", false), ("BadList", "BadCalls", false), ("BadList", "BadPrices", false), ("BadList", "BadList", true), ("BadList", "BadWays", false), ("BadList", "BadSet", false), ("BadList", "BadPaper", false), ("BadList", "Twice", false), ("BadList", "OutOfPlace", false), ("BadList", "TooGreat", false), ("BadList", "Nothing", false)]
def xs_BadWays : List (Str × Str × Bool) := [("BadWays", "ListError", true), ("BadWays", "BadRow", false), ("BadWays", "BadCalls", false), ("BadWays", "BadPrices", false), ("BadWays", "BadList", false), ("BadWays", "BadWays", true), ("BadWays", "BadSet", false), ("BadWays", "BadPaper", false), ("BadWays", "Twice", false), ("BadWays", "OutOfPlace", false), ("BadWays", "TooGreat", false), ("BadWays", "Nothing", false)]
def xs_BadSet : List (Str × Str × Bool) := [("BadSet", "ListError", true), ("BadSet", "BadRow", false), ("BadSet", "BadCalls", false), ("BadSet", "BadPrices", false), ("BadSet", "BadList", false), ("BadSet", "BadWays", false), ("BadSet", "BadSet", true), ("BadSet", "BadPaper", false), ("BadSet", "Twice", false), ("BadSet", "OutOfPlace", false), ("BadSet", "TooGreat", false), ("BadSet", "Nothing", false)]
def xs_BadPaper : List (Str × Str × Bool) := [("BadPaper", "ListError", true), ("BadPaper", "BadRow", false), ("BadPaper", "BadCalls", false), ("BadPaper", "BadPrices", false), ("BadPaper", "BadList", false), ("BadPaper", "BadWays", false), ("BadPaper", "BadSet", false), ("BadPaper", "BadPaper", true), ("BadPaper", "Twice", false), ("BadPaper", "OutOfPlace", false), ("BadPaper", "TooGreat", false), ("BadPaper", "Nothing", false)]
def xs_Twice : List (Str × Str × Bool) := [("Twice", "ListError", true), ("Twice", "BadRow", false), ("Twice", "BadCalls", false), ("Twice", "BadPrices", false), ("Twice", "BadList", false), ("Twice", "BadWays", false), ("Twice", "BadSet", false), ("Twice", "BadPaper", false), ("Twice", "Twice", true), ("Twice", "OutOfPlace", false), ("Twice", "TooGreat", false), ("Twice", "Nothing", false)]
def xs_OutOfPlace : List (Str × Str × Bool) := [("OutOfPlace", "ListError", true), ("OutOfPlace", "BadRow", false), ("OutOfPlace", "BadCalls", false), ("OutOfPlace", "BadPrices", false), ("OutOfPlace", "BadList", false), ("OutOfPlace", "BadWays", false), ("OutOfPlace", "BadSet", false), ("OutOfPlace", "BadPaper", false), ("OutOfPlace", "Twice", false), ("OutOfPlace", "OutOfPlace", true), ("OutOfPlace", "TooGreat", false), ("OutOfPlace", "Nothing", false)]
def xs_TooGreat : List (Str × Str × Bool) := [("TooGreat", "ListError", true), ("TooGreat", "BadRow", false), ("TooGreat", "BadCalls", false), ("TooGreat", "BadPrices", false), ("TooGreat", "BadList", false), ("TooGreat", "BadWays", false), ("TooGreat", "BadSet", false), ("TooGreat", "BadPaper", false), ("TooGreat", "Twice", false), ("TooGreat", "OutOfPlace", false), ("TooGreat", "TooGreat", true), ("TooGreat", "Nothing", false)]
def xs_Nothing : List (Str × Str × Bool) := [("Nothing", "ListError", true), ("Nothing", "BadRow", false), ("Nothing", "BadCalls", false), ("Nothing", "BadPrices", false), ("Nothing", "BadList", false), ("Nothing", "BadWays", false), ("Nothing", "BadSet", false), ("Nothing", "BadPaper", false), ("Nothing", "Twice", false), ("Nothing", "OutOfPlace", false), ("Nothing", "TooGreat", false), ("Nothing", "Nothing", true)]
def xsAll : List (Str × Str × Bool) := xs_ListError ++ xs_BadRow ++ xs_BadCalls ++ xs_BadPrices ++ xs_BadList ++ xs_BadWays ++ xs_BadSet ++ xs_BadPaper ++ xs_Twice ++ xs_OutOfPlace ++ xs_TooGreat ++ xs_Nothing
def xt : Ev.XT := ⟨["ListError", "BadRow", "BadCalls", "BadPrices", "BadList", "BadWays", "BadSet", "BadPaper", "Twice", "OutOfPlace", "TooGreat", "Nothing"], ["ListError", "Twice", "OutOfPlace", "TooGreat", "Nothing"], [("BadRow", "row", ["word"]), ("BadCalls", "number", []), ("BadPrices", "number", []), ("BadList", "part", ["number"]), ("BadWays", "number", []), ("BadSet", "number", []), ("BadPaper", "place", [])], xsAll, [("ListError", true), ("BadRow", true), ("BadCalls", true), ("BadPrices", true), ("BadList", true), ("BadWays", true), ("BadSet", true), ("BadPaper", true), ("Twice", true), ("OutOfPlace", true), ("TooGreat", true), ("Nothing", true)], xsAll, [("BadRow", "row"), ("BadRow", "word"), ("BadCalls", "number"), ("BadPrices", "number"), ("BadList", "part"), ("BadList", "number"), ("BadWays", "number"), ("BadSet", "number"), ("BadPaper", "place")], [], [], [], []⟩
def exF (K : PySem.W.Frag) : Bool := xt.ok K && (Ev.exbB K (He.ga K "ListError") && (true))
abbrev R : PySem.W.OpenRow := PySem.W.OpenLaw.row PySem.Challenge.rw_heirlists_k02_calls_looked_at
abbrev hk : PySem.W.Hook := Ev.hookY 4 faB fn exF
def ob (s : PySem.W.SharedT) : Ev.AlY := Ev.obsY 4 faB fn exF (HandSHeadRun.getT s)
theorem ob_eq (s : PySem.W.SharedT) : ob s = hk.obs s.abs := Ev.obsY_eq (HandSHeadRun.getT_eq s)
theorem run (w : World) : HandSHeadRun.RunEq R (PySem.W.view R.prog [40]) hk ob 20000 loose w := by
  intro os
  kernel_rfl
def con0 : Str → Option Ev.D := fun x => if x = "LETTERS" then some (.str "abcdefghijklmnopqrstuvwxyz") else if x = "MOST_LETTERS" then some (.int 8) else if x = "MOST_GROUPS" then some (.int 6) else if x = "MOST_NAMES" then some (.int 4) else none
def G0 : Ev.Gt := xt.gt con0
def n__law_draw : List Str := ["_law_cell", "_law_k"]
def p__law_draw : List Str := ["_law_cell", "_law_k"]
def b__law_draw : Ev.Ss := (.cons (.ret (.dic ["left", "cell", "turns"] (.cons (.ite (.cmp .GtE (.var 0) (.bin .Pow (.int 10) (.int 18))) (.var 0) (.int 0)) (.cons (.var 0) (.cons (.bin .Mult (.int 1000) (.var 1)) .nil))))) .nil)
theorem c__law_draw : Ev.chkSs n__law_draw (defScope s__law_draw) b__law_draw (defBody s__law_draw) = true := by decide +kernel
theorem sc__law_draw : FnScope n__law_draw p__law_draw (defScope s__law_draw) := ⟨rfl, rfl, rfl, by decide +kernel, rfl, by decide +kernel, by decide +kernel⟩
def f__law_draw : List Ev.W → Ev.Store → Ev.R Ev.W := Ev.runS G0 2 2 b__law_draw
def G1 : Ev.Gt := G0.addS "_law_draw" f__law_draw
def n__law_mixed : List Str := ["_law_cell", "_law_k", "_law_number"]
def p__law_mixed : List Str := ["_law_cell", "_law_k"]
def b__law_mixed : Ev.Ss := (.cons (.set 2 (.bin .Add (.bin .Add (.bin .Mod (.var 0) (.sub (.lst (.cons (.int 1000000007) (.cons (.int 998244353) (.cons (.int 2147483629) (.cons (.int 1000000009) .nil))))) (.bin .Mod (.var 1) (.int 4)))) (.bin .Mult (.int 7919) (.var 1))) (.int 13))) (.cons (.ret (.bin .Mod (.bin .Mult (.bin .Mod (.bin .Mult (.var 2) (.var 2)) (.int 2147483647)) (.int 48271)) (.int 2147483647))) .nil))
theorem c__law_mixed : Ev.chkSs n__law_mixed (defScope s__law_mixed) b__law_mixed (defBody s__law_mixed) = true := by decide +kernel
theorem sc__law_mixed : FnScope n__law_mixed p__law_mixed (defScope s__law_mixed) := ⟨rfl, rfl, rfl, by decide +kernel, rfl, by decide +kernel, by decide +kernel⟩
def f__law_mixed : List Ev.D → Option (Except Ev.Xv Ev.D) := Ev.runP G1 3 2 b__law_mixed
def G2 : Ev.Gt := G1.addP "_law_mixed" f__law_mixed
def n__law_digit : List Str := ["_law_state", "_law_many", "_law_j", "_law_found"]
def p__law_digit : List Str := ["_law_state", "_law_many"]
def l__law_digit_0 : Ev.Ss := (.cons (.dput (.var 0) (.str "turns") (.bin .Add (.dget (.var 0) (.str "turns")) (.int 1))) (.cons (.dput (.var 0) (.str "left") (.bin .Add (.bin .Mult (.dget (.var 0) (.str "left")) (.int 2147483647)) (.callP "_law_mixed" (.cons (.dget (.var 0) (.str "cell")) (.cons (.dget (.var 0) (.str "turns")) .nil))))) .nil))
def b__law_digit : Ev.Ss := (.cons (.iff (.cmp .Eq (.dget (.var 0) (.str "left")) (.int 0)) (.cons (.for_ (.nm 2) (.rng1 (.int 4)) l__law_digit_0) .nil) .nil) (.cons (.set 3 (.bin .Mod (.dget (.var 0) (.str "left")) (.var 1))) (.cons (.dput (.var 0) (.str "left") (.bin .FloorDiv (.dget (.var 0) (.str "left")) (.var 1))) (.cons (.ret (.var 3)) .nil))))
theorem c__law_digit : Ev.chkSs n__law_digit (defScope s__law_digit) b__law_digit (defBody s__law_digit) = true := by decide +kernel
theorem sc__law_digit : FnScope n__law_digit p__law_digit (defScope s__law_digit) := ⟨rfl, rfl, rfl, by decide +kernel, rfl, by decide +kernel, by decide +kernel⟩
def f__law_digit : List Ev.W → Ev.Store → Ev.R Ev.W := Ev.runS G2 4 2 b__law_digit
def G3 : Ev.Gt := G2.addS "_law_digit" f__law_digit
def n__law_word : List Str := ["_law_state", "_law_signs", "_law_j"]
def p__law_word : List Str := ["_law_state"]
def b__law_word : Ev.Ss := (.cons (.set 1 (.lc [2] (.nm 2) (.rng1 (.bin .Add (.int 1) (.callS "_law_digit" (.cons (.var 0) (.cons (.int 8) .nil))))) (.bl true) (.sub (.str "abcdefghijklmnopqrstuvwxyz") (.callS "_law_digit" (.cons (.var 0) (.cons (.int 26) .nil)))))) (.cons (.ret (.sub (.lst (.cons (.mth .join (.str "") (.cons (.var 1) .nil)) (.cons (.str "a") (.cons (.str "ab") (.cons (.str "lent") (.cons (.str "gone") (.cons (.str "moved") (.cons (.str "abc") (.cons (.str "b") .nil))))))))) (.callS "_law_digit" (.cons (.var 0) (.cons (.int 8) .nil))))) .nil))
theorem c__law_word : Ev.chkSs n__law_word (defScope s__law_word) b__law_word (defBody s__law_word) = true := by decide +kernel
theorem sc__law_word : FnScope n__law_word p__law_word (defScope s__law_word) := ⟨rfl, rfl, rfl, by decide +kernel, rfl, by decide +kernel, by decide +kernel⟩
def f__law_word : List Ev.W → Ev.Store → Ev.R Ev.W := Ev.runS G3 3 1 b__law_word
def G4 : Ev.Gt := G3.addS "_law_word" f__law_word
def n__law_calls : List Str := ["_law_state", "_law_many", "_law_names", "_law_groups", "_law_k", "_law_word_here", "_law_size", "_law_group"]
def p__law_calls : List Str := ["_law_state"]
def l__law_calls_0 : Ev.Ss := (.cons (.set 6 (.bin .Add (.int 2) (.callS "_law_digit" (.cons (.var 0) (.cons (.int 3) .nil))))) (.cons (.par 7 2 (.slc (.var 2) .absent (.var 6)) (.slc (.var 2) (.var 6) .absent)) (.cons (.iff (.cmp .Gt (.bi .len (.cons (.var 7) .nil)) (.int 1)) (.cons (.app (.var 3) (.bi .tuple (.cons (.bi .sorted (.cons (.var 7) .nil)) .nil))) .nil) .nil) .nil)))
def l__law_calls_1 : Ev.Ss := (.cons (.set 5 (.callS "_law_word" (.cons (.var 0) .nil))) (.cons (.iff (.cmp .NotIn (.var 5) (.var 2)) (.cons (.app (.var 2) (.var 5)) .nil) .nil) .nil))
def b__law_calls : Ev.Ss := (.cons (.set 1 (.callS "_law_digit" (.cons (.var 0) (.cons (.int 7) .nil)))) (.cons (.par 2 3 .nlst .nlst) (.cons (.for_ (.nm 4) (.rng1 (.bin .Mult (.int 3) (.var 1))) l__law_calls_1) (.cons (.for_ (.nm 4) (.rng1 (.var 1)) l__law_calls_0) (.cons (.ret (.bi .tuple (.cons (.bi .sorted (.cons (.var 3) .nil)) .nil))) .nil)))))
theorem c__law_calls : Ev.chkSs n__law_calls (defScope s__law_calls) b__law_calls (defBody s__law_calls) = true := by decide +kernel
theorem sc__law_calls : FnScope n__law_calls p__law_calls (defScope s__law_calls) := ⟨rfl, rfl, rfl, by decide +kernel, rfl, by decide +kernel, by decide +kernel⟩
def f__law_calls : List Ev.W → Ev.Store → Ev.R Ev.W := Ev.runS G4 8 1 b__law_calls
def G5 : Ev.Gt := G4.addS "_law_calls" f__law_calls
def n__law_bent : List Str := ["_law_state", "_law_calls_here", "_law_way", "_law_at", "_law_odd", "_law_own", "_law_spot", "_law_some", "_law_fresh", "_law_sign"]
def p__law_bent : List Str := ["_law_state", "_law_calls_here"]
def b__law_bent : Ev.Ss := (.cons (.par 2 3 (.callS "_law_digit" (.cons (.var 0) (.cons (.int 5) .nil))) (.callS "_law_digit" (.cons (.var 0) (.cons (.bin .Add (.bi .len (.cons (.var 1) .nil)) (.int 1)) .nil)))) (.cons (.set 4 (.sub (.lst (.cons .non (.cons (.str "A") (.cons (.str "") (.cons (.str "abcdefghi") (.cons (.bl true) (.cons (.int 7) (.cons (.tup (.cons (.str "a") .nil)) (.cons (.str "a") (.cons (.lst (.cons (.str "a") .nil)) (.cons .ndic .nil))))))))))) (.callS "_law_digit" (.cons (.var 0) (.cons (.int 10) .nil))))) (.cons (.set 5 (.ite (.and2 (.cmp .Lt (.var 3) (.bi .len (.cons (.var 1) .nil))) (.isi (.sub (.var 1) (.var 3)) .tuple)) (.sub (.var 1) (.var 3)) (.tup (.cons (.str "x") (.cons (.str "y") .nil))))) (.cons (.set 6 (.callS "_law_digit" (.cons (.var 0) (.cons (.bin .Add (.bi .len (.cons (.var 5) .nil)) (.int 1)) .nil)))) (.cons (.set 7 (.lst (.cons (.bin .Add (.bin .Add (.slc (.var 5) .absent (.var 6)) (.tup (.cons (.var 4) .nil))) (.slc (.var 5) (.bin .Add (.var 6) (.int 1)) .absent)) (.cons (.bin .Add (.bin .Add (.slc (.var 5) .absent (.var 6)) (.tup (.cons (.var 4) .nil))) (.slc (.var 5) (.var 6) .absent)) (.cons (.rev (.var 5)) (.cons (.slc (.var 5) .absent (.int 1)) (.cons (.bi .list (.cons (.var 5) .nil)) .nil))))))) (.cons (.set 7 (.bin .Add (.var 7) (.lst (.cons (.bin .Add (.var 5) (.var 5)) (.cons .non (.cons (.str "ab") (.cons (.bin .Add (.var 5) (.tup (.cons (.str "zz") (.cons (.str "zzz") .nil)))) (.cons (.bin .Add (.slc (.var 5) .absent (.var 6)) (.slc (.var 5) (.bin .Add (.var 6) (.int 1)) .absent)) (.cons (.tup (.cons (.str "a") (.cons (.str "ab") .nil))) (.cons (.var 5) .nil)))))))))) (.cons (.set 8 (.sub (.var 7) (.callS "_law_digit" (.cons (.var 0) (.cons (.int 12) .nil))))) (.cons (.iff (.cmp .Eq (.var 2) (.int 0)) (.cons (.ret (.bin .Add (.var 1) (.bi .tuple (.cons (.slc (.lc [9] (.nm 9) (.it (.str "abcdefg")) (.bl true) (.tup (.cons (.bin .Add (.str "zzz") (.var 9)) (.cons (.bin .Add (.str "zzz") (.bin .Mult (.var 9) (.int 2))) .nil)))) .absent (.bin .Add (.int 1) (.var 6))) .nil)))) .nil) .nil) (.cons (.iff (.cmp .Eq (.var 2) (.int 1)) (.cons (.set 7 (.lst (.cons (.rev (.var 1)) (.cons (.bin .Add (.slc (.var 1) (.var 3) .absent) (.slc (.var 1) .absent (.var 3))) (.cons (.bi .list (.cons (.var 1) .nil)) (.cons (.bin .Add (.slc (.var 1) .absent (.var 3)) (.slc (.var 1) .absent (.var 3))) (.cons .ndic (.cons .non .nil)))))))) (.cons (.ret (.sub (.var 7) (.callS "_law_digit" (.cons (.var 0) (.cons (.int 6) .nil))))) .nil)) .nil) (.cons (.ret (.bin .Add (.bin .Add (.slc (.var 1) .absent (.var 3)) (.tup (.cons (.var 8) .nil))) (.slc (.var 1) (.bin .Add (.var 3) (.bin .Mod (.var 2) (.int 2))) .absent))) .nil))))))))))
theorem c__law_bent : Ev.chkSs n__law_bent (defScope s__law_bent) b__law_bent (defBody s__law_bent) = true := by decide +kernel
theorem sc__law_bent : FnScope n__law_bent p__law_bent (defScope s__law_bent) := ⟨rfl, rfl, rfl, by decide +kernel, rfl, by decide +kernel, by decide +kernel⟩
def f__law_bent : List Ev.W → Ev.Store → Ev.R Ev.W := Ev.runS G5 10 2 b__law_bent
def G6 : Ev.Gt := G5.addS "_law_bent" f__law_bent
def n__law_is_name : List Str := ["_law_thing", "_law_sign"]
def p__law_is_name : List Str := ["_law_thing"]
def b__law_is_name : Ev.Ss := (.cons (.iff (.or2 (.not (.isi (.var 0) .str)) (.not (.chain .Lt .Lt (.int 0) (.bi .len (.cons (.var 0) .nil)) (.int 9)))) (.cons (.ret (.bl false)) .nil) .nil) (.cons (.ret (.cmp .Eq (.lc [1] (.nm 1) (.it (.var 0)) (.cmp .NotIn (.var 1) (.str "abcdefghijklmnopqrstuvwxyz")) (.var 1)) (.lst .nil))) .nil))
theorem c__law_is_name : Ev.chkSs n__law_is_name (defScope s__law_is_name) b__law_is_name (defBody s__law_is_name) = true := by decide +kernel
theorem sc__law_is_name : FnScope n__law_is_name p__law_is_name (defScope s__law_is_name) := ⟨rfl, rfl, rfl, by decide +kernel, rfl, by decide +kernel, by decide +kernel⟩
def f__law_is_name : List Ev.D → Option (Except Ev.Xv Ev.D) := Ev.runP G6 2 1 b__law_is_name
def G7 : Ev.Gt := G6.addP "_law_is_name" f__law_is_name
def n__law_is_group : List Str := ["_law_thing", "_law_one"]
def p__law_is_group : List Str := ["_law_thing"]
def b__law_is_group : Ev.Ss := (.cons (.iff (.or2 (.not (.isi (.var 0) .tuple)) (.or2 (.not (.chain .Lt .Lt (.int 1) (.bi .len (.cons (.var 0) .nil)) (.int 5))) (.cmp .NotEq (.lc [1] (.nm 1) (.it (.var 0)) (.not (.callP "_law_is_name" (.cons (.var 1) .nil))) (.var 1)) (.lst .nil)))) (.cons (.ret (.bl false)) .nil) .nil) (.cons (.ret (.cmp .Eq (.bi .list (.cons (.var 0) .nil)) (.srts (.var 0)))) .nil))
theorem c__law_is_group : Ev.chkSs n__law_is_group (defScope s__law_is_group) b__law_is_group (defBody s__law_is_group) = true := by decide +kernel
theorem sc__law_is_group : FnScope n__law_is_group p__law_is_group (defScope s__law_is_group) := ⟨rfl, rfl, rfl, by decide +kernel, rfl, by decide +kernel, by decide +kernel⟩
def f__law_is_group : List Ev.D → Option (Except Ev.Xv Ev.D) := Ev.runP G7 2 1 b__law_is_group
def G8 : Ev.Gt := G7.addP "_law_is_group" f__law_is_group
def n__law_due : List Str := ["_law_thing", "_law_names", "_law_number", "_law_group", "_law_name"]
def p__law_due : List Str := ["_law_thing"]
def l__law_due_0 : Ev.Ss := (.cons (.iff (.or2 (.not (.callP "_law_is_group" (.cons (.var 3) .nil))) (.cmp .NotEq (.lc [4] (.nm 4) (.it (.var 3)) (.cmp .In (.var 4) (.var 1)) (.var 4)) (.lst .nil))) (.cons (.ret (.var 2)) .nil) .nil) (.cons (.iff (.and2 (.cmp .Gt (.var 2) (.int 0)) (.not (.cmp .Lt (.sub (.var 0) (.bin .Sub (.var 2) (.int 1))) (.var 3)))) (.cons (.ret (.var 2)) .nil) .nil) (.cons (.ext (.var 1) (.var 3)) .nil)))
def b__law_due : Ev.Ss := (.cons (.iff (.or2 (.not (.isi (.var 0) .tuple)) (.cmp .Gt (.bi .len (.cons (.var 0) .nil)) (.int 6))) (.cons (.ret (.str "none")) .nil) .nil) (.cons (.set 1 .nlst) (.cons (.for_ (.cons (.nm 2) (.cons (.nm 3) .nil)) (.enm (.var 0)) l__law_due_0) (.cons (.ret .non) .nil))))
theorem c__law_due : Ev.chkSs n__law_due (defScope s__law_due) b__law_due (defBody s__law_due) = true := by decide +kernel
theorem sc__law_due : FnScope n__law_due p__law_due (defScope s__law_due) := ⟨rfl, rfl, rfl, by decide +kernel, rfl, by decide +kernel, by decide +kernel⟩
def f__law_due : List Ev.D → Option (Except Ev.Xv Ev.D) := Ev.runP G8 5 1 b__law_due
def G9 : Ev.Gt := G8.addP "_law_due" f__law_due
def n__law_kinds : List Str := ["_law_error", "_law_kinds_here", "_law_name", "_law_fits"]
def p__law_kinds : List Str := ["_law_error"]
def b__law_kinds : Ev.Ss := (.cons (.set 1 (.lstc (.cons (.tup (.cons (.str "row") (.cons (.isx (.var 0) "BadRow") .nil))) (.cons (.tup (.cons (.str "calls") (.cons (.isx (.var 0) "BadCalls") .nil))) .nil)))) (.cons (.set 1 (.addc (.var 1) (.lst (.cons (.tup (.cons (.str "prices") (.cons (.isx (.var 0) "BadPrices") .nil))) (.cons (.tup (.cons (.str "list") (.cons (.isx (.var 0) "BadList") .nil))) .nil))))) (.cons (.set 1 (.addc (.var 1) (.lst (.cons (.tup (.cons (.str "ways") (.cons (.isx (.var 0) "BadWays") .nil))) (.cons (.tup (.cons (.str "set") (.cons (.isx (.var 0) "BadSet") .nil))) .nil))))) (.cons (.set 1 (.addc (.var 1) (.lst (.cons (.tup (.cons (.str "paper") (.cons (.isx (.var 0) "BadPaper") .nil))) (.cons (.tup (.cons (.str "twice") (.cons (.isx (.var 0) "Twice") .nil))) .nil))))) (.cons (.set 1 (.addc (.var 1) (.lst (.cons (.tup (.cons (.str "place") (.cons (.isx (.var 0) "OutOfPlace") .nil))) (.cons (.tup (.cons (.str "great") (.cons (.isx (.var 0) "TooGreat") .nil))) .nil))))) (.cons (.set 1 (.addc (.var 1) (.lst (.cons (.tup (.cons (.str "nothing") (.cons (.isx (.var 0) "Nothing") .nil))) .nil)))) (.cons (.app (.var 1) (.tup (.cons (.str "other") (.cons (.or2 (.not (.isx (.var 0) "ValueError")) (.not (.isx (.var 0) "ListError"))) .nil)))) (.cons (.ret (.lc [2, 3] (.cons (.nm 2) (.cons (.nm 3) .nil)) (.it (.var 1)) (.var 3) (.var 2))) .nil))))))))
theorem c__law_kinds : Ev.chkSs n__law_kinds (defScope s__law_kinds) b__law_kinds (defBody s__law_kinds) = true := by decide +kernel
theorem sc__law_kinds : FnScope n__law_kinds p__law_kinds (defScope s__law_kinds) := ⟨rfl, rfl, rfl, by decide +kernel, rfl, by decide +kernel, by decide +kernel⟩
def f__law_kinds : List Ev.D → Option (Except Ev.Xv Ev.D) := Ev.runP G9 4 1 b__law_kinds
def G10 : Ev.Gt := G9.addP "_law_kinds" f__law_kinds
def n_is_name : List Str := ["thing", "sign"]
def p_is_name : List Str := ["thing"]
def b_is_name : Ev.Ss := (.cons (.iff (.or2 (.not (.isi (.var 0) .str)) (.not (.chain .LtE .LtE (.int 1) (.bi .len (.cons (.var 0) .nil)) (.glob "MOST_LETTERS")))) (.cons (.ret (.bl false)) .nil) .nil) (.cons (.ret (.bi .all (.cons (.lc [1] (.nm 1) (.it (.var 0)) (.bl true) (.cmp .In (.var 1) (.glob "LETTERS"))) .nil))) .nil))
theorem c_is_name : Ev.chkSs n_is_name (defScope s_is_name) b_is_name (defBody s_is_name) = true := by decide +kernel
theorem sc_is_name : FnScope n_is_name p_is_name (defScope s_is_name) := ⟨rfl, rfl, rfl, by decide +kernel, rfl, by decide +kernel, by decide +kernel⟩
def f_is_name : List Ev.D → Option (Except Ev.Xv Ev.D) := Ev.runP G10 2 1 b_is_name
def G11 : Ev.Gt := G10.addP "is_name" f_is_name
def n_is_group : List Str := ["thing", "one", "later"]
def p_is_group : List Str := ["thing"]
def b_is_group : Ev.Ss := (.cons (.iff (.or2 (.not (.isi (.var 0) .tuple)) (.or2 (.not (.chain .LtE .LtE (.int 2) (.bi .len (.cons (.var 0) .nil)) (.glob "MOST_NAMES"))) (.not (.bi .all (.cons (.lc [1] (.nm 1) (.it (.var 0)) (.bl true) (.callP "is_name" (.cons (.var 1) .nil))) .nil))))) (.cons (.ret (.bl false)) .nil) .nil) (.cons (.ret (.bi .all (.cons (.lc [1, 2] (.cons (.nm 1) (.cons (.nm 2) .nil)) (.zip (.var 0) (.slc (.var 0) (.int 1) .absent)) (.bl true) (.cmp .Lt (.var 1) (.var 2))) .nil))) .nil))
theorem c_is_group : Ev.chkSs n_is_group (defScope s_is_group) b_is_group (defBody s_is_group) = true := by decide +kernel
theorem sc_is_group : FnScope n_is_group p_is_group (defScope s_is_group) := ⟨rfl, rfl, rfl, by decide +kernel, rfl, by decide +kernel, by decide +kernel⟩
def f_is_group : List Ev.D → Option (Except Ev.Xv Ev.D) := Ev.runP G11 3 1 b_is_group
def G12 : Ev.Gt := G11.addP "is_group" f_is_group
def n_bad_group : List Str := ["groups", "known", "number", "group", "name"]
def p_bad_group : List Str := ["groups"]
def l_bad_group_0 : Ev.Ss := (.cons (.dput (.var 1) (.var 4) (.bl true)) .nil)
def l_bad_group_1 : Ev.Ss := (.cons (.iff (.or2 (.not (.callP "is_group" (.cons (.var 3) .nil))) (.bi .any (.cons (.lc [4] (.nm 4) (.it (.var 3)) (.bl true) (.kin false (.var 4) (.var 1))) .nil))) (.cons (.ret (.var 2)) .nil) .nil) (.cons (.iff (.and2 (.cmp .Gt (.var 2) (.int 0)) (.cmp .LtE (.var 3) (.sub (.var 0) (.bin .Sub (.var 2) (.int 1))))) (.cons (.ret (.var 2)) .nil) .nil) (.cons (.for_ (.nm 4) (.it (.var 3)) l_bad_group_0) .nil)))
def b_bad_group : Ev.Ss := (.cons (.set 1 .ndic) (.cons (.for_ (.cons (.nm 2) (.cons (.nm 3) .nil)) (.enm (.var 0)) l_bad_group_1) (.cons (.ret .non) .nil)))
theorem c_bad_group : Ev.chkSs n_bad_group (defScope s_bad_group) b_bad_group (defBody s_bad_group) = true := by decide +kernel
theorem sc_bad_group : FnScope n_bad_group p_bad_group (defScope s_bad_group) := ⟨rfl, rfl, rfl, by decide +kernel, rfl, by decide +kernel, by decide +kernel⟩
def f_bad_group : List Ev.D → Option (Except Ev.Xv Ev.D) := Ev.runP G12 5 1 b_bad_group
def G13 : Ev.Gt := G12.addP "bad_group" f_bad_group
def n_are_calls : List Str := ["thing"]
def p_are_calls : List Str := ["thing"]
def b_are_calls : Ev.Ss := (.cons (.ret (.and2 (.isi (.var 0) .tuple) (.cmp .LtE (.bi .len (.cons (.var 0) .nil)) (.glob "MOST_GROUPS")))) .nil)
theorem c_are_calls : Ev.chkSs n_are_calls (defScope s_are_calls) b_are_calls (defBody s_are_calls) = true := by decide +kernel
theorem sc_are_calls : FnScope n_are_calls p_are_calls (defScope s_are_calls) := ⟨rfl, rfl, rfl, by decide +kernel, rfl, by decide +kernel, by decide +kernel⟩
def f_are_calls : List Ev.D → Option (Except Ev.Xv Ev.D) := Ev.runP G13 1 1 b_are_calls
def G14 : Ev.Gt := G13.addP "are_calls" f_are_calls
def n_need_calls : List Str := ["calls", "number"]
def p_need_calls : List Str := ["calls"]
def b_need_calls : Ev.Ss := (.cons (.iff (.not (.callP "are_calls" (.cons (.var 0) .nil))) (.cons (.raise_ "BadCalls" (.cons .non .nil)) .nil) .nil) (.cons (.set 1 (.callP "bad_group" (.cons (.var 0) .nil))) (.cons (.iff (.cmp .IsNot (.var 1) .non) (.cons (.raise_ "BadCalls" (.cons (.var 1) .nil)) .nil) .nil) .nil)))
theorem c_need_calls : Ev.chkSs n_need_calls (defScope s_need_calls) b_need_calls (defBody s_need_calls) = true := by decide +kernel
theorem sc_need_calls : FnScope n_need_calls p_need_calls (defScope s_need_calls) := ⟨rfl, rfl, rfl, by decide +kernel, rfl, by decide +kernel, by decide +kernel⟩
def f_need_calls : List Ev.D → Option (Except Ev.Xv Ev.D) := Ev.runP G14 2 1 b_need_calls
def G15 : Ev.Gt := G14.addP "need_calls" f_need_calls
def n_group_in : List Str := ["calls", "name", "found", "group"]
def p_group_in : List Str := ["calls", "name"]
def b_group_in : Ev.Ss := (.cons (.set 2 (.lc [3] (.nm 3) (.it (.var 0)) (.cmp .In (.var 1) (.var 3)) (.var 3))) (.cons (.ret (.ite (.cmp .NotEq (.var 2) (.lst .nil)) (.sub (.var 2) (.int 0)) (.tup (.cons (.var 1) .nil)))) .nil))
theorem c_group_in : Ev.chkSs n_group_in (defScope s_group_in) b_group_in (defBody s_group_in) = true := by decide +kernel
theorem sc_group_in : FnScope n_group_in p_group_in (defScope s_group_in) := ⟨rfl, rfl, rfl, by decide +kernel, rfl, by decide +kernel, by decide +kernel⟩
def f_group_in : List Ev.D → Option (Except Ev.Xv Ev.D) := Ev.runP G15 4 2 b_group_in
def G16 : Ev.Gt := G15.addP "group_in" f_group_in
def n_group_of : List Str := ["calls", "name"]
def p_group_of : List Str := ["calls", "name"]
def b_group_of : Ev.Ss := (.cons (.expr (.callP "need_calls" (.cons (.var 0) .nil))) (.cons (.iff (.not (.callP "is_name" (.cons (.var 1) .nil))) (.cons (.raise_ "OutOfPlace" (.cons (.str "no name") .nil)) .nil) .nil) (.cons (.ret (.callP "group_in" (.cons (.var 0) (.cons (.var 1) .nil)))) .nil)))
theorem c_group_of : Ev.chkSs n_group_of (defScope s_group_of) b_group_of (defBody s_group_of) = true := by decide +kernel
theorem sc_group_of : FnScope n_group_of p_group_of (defScope s_group_of) := ⟨rfl, rfl, rfl, by decide +kernel, rfl, by decide +kernel, by decide +kernel⟩
def f_group_of : List Ev.D → Option (Except Ev.Xv Ev.D) := Ev.runP G16 2 2 b_group_of
def G17 : Ev.Gt := G16.addP "group_of" f_group_of
def n__law_told : List Str := ["_law_way", "_law_thing", "_law_name", "_law_wrong", "_law_told_here", "e"]
def p__law_told : List Str := ["_law_way", "_law_thing", "_law_name"]
def b__law_told : Ev.Ss := (.cons (.unp (.cons (.nm 3) (.cons (.nm 4) .nil)) (.tup (.cons .non (.cons .non .nil)))) (.cons (.tryk (.cons (.set 4 (.ite (.cmp .Eq (.var 0) (.int 0)) (.callP "need_calls" (.cons (.var 1) .nil)) (.callP "group_of" (.cons (.var 1) (.cons (.var 2) .nil))))) .nil) "ListError" 5 3) (.cons (.iff (.cmp .Is (.var 3) .non) (.cons (.ret (.var 4)) .nil) .nil) (.cons (.iff (.or2 (.cmp .NotEq (.callP "_law_kinds" (.cons (.var 3) .nil)) (.lst (.cons (.str "calls") .nil))) (.isi (.fld (.var 3) "number") .bool)) (.cons (.ret (.callP "_law_kinds" (.cons (.var 3) .nil))) .nil) .nil) (.cons (.ret (.ite (.cmp .Is (.fld (.var 3) "number") .non) (.str "none") (.fld (.var 3) "number"))) .nil)))))
theorem c__law_told : Ev.chkSs n__law_told (defScope s__law_told) b__law_told (defBody s__law_told) = true := by decide +kernel
theorem sc__law_told : FnScope n__law_told p__law_told (defScope s__law_told) := ⟨rfl, rfl, rfl, by decide +kernel, rfl, by decide +kernel, by decide +kernel⟩
def f__law_told : List Ev.D → Option (Except Ev.Xv Ev.D) := Ev.runP G17 6 3 b__law_told
def G18 : Ev.Gt := G17.addP "_law_told" f__law_told
def n_is_calls : List Str := ["thing"]
def p_is_calls : List Str := ["thing"]
def b_is_calls : Ev.Ss := (.cons (.ret (.and2 (.callP "are_calls" (.cons (.var 0) .nil)) (.cmp .Is (.callP "bad_group" (.cons (.var 0) .nil)) .non))) .nil)
theorem c_is_calls : Ev.chkSs n_is_calls (defScope s_is_calls) b_is_calls (defBody s_is_calls) = true := by decide +kernel
theorem sc_is_calls : FnScope n_is_calls p_is_calls (defScope s_is_calls) := ⟨rfl, rfl, rfl, by decide +kernel, rfl, by decide +kernel, by decide +kernel⟩
def f_is_calls : List Ev.D → Option (Except Ev.Xv Ev.D) := Ev.runP G18 1 1 b_is_calls
def G19 : Ev.Gt := G18.addP "is_calls" f_is_calls
def n__law_right : List Str := ["_law_state", "_law_thing", "_law_due_here", "_law_odd", "_law_group", "_law_name", "_law_other"]
def p__law_right : List Str := ["_law_state", "_law_thing"]
def l__law_right_0 : Ev.Ss := (.cons (.iff (.cmp .NotEq (.bi .repr (.cons (.callP "_law_told" (.cons (.int 1) (.cons (.var 1) (.cons (.var 5) .nil)))) .nil)) (.bi .repr (.cons (.var 4) .nil))) (.cons (.ret (.bl false)) .nil) .nil) .nil)
def l__law_right_1 : Ev.Ss := (.cons (.for_ (.nm 5) (.it (.var 4)) l__law_right_0) .nil)
def b__law_right : Ev.Ss := (.cons (.set 2 (.callP "_law_due" (.cons (.var 1) .nil))) (.cons (.iff (.or2 (.cmp .NotEq (.bi .repr (.cons (.callP "is_calls" (.cons (.var 1) .nil)) .nil)) (.bi .repr (.cons (.cmp .Is (.var 2) .non) .nil))) (.cmp .NotEq (.bi .repr (.cons (.callP "_law_told" (.cons (.int 0) (.cons (.var 1) (.cons (.str "a") .nil)))) .nil)) (.bi .repr (.cons (.var 2) .nil)))) (.cons (.ret (.bl false)) .nil) .nil) (.cons (.set 3 (.sub (.lst (.cons .non (.cons (.str "A") (.cons (.str "") (.cons (.int 7) (.cons (.bl true) (.cons (.tup (.cons (.str "a") .nil)) (.cons (.str "abcdefghi") (.cons (.lst (.cons (.str "a") .nil)) .nil))))))))) (.callS "_law_digit" (.cons (.var 0) (.cons (.int 8) .nil))))) (.cons (.iff (.cmp .IsNot (.var 2) .non) (.cons (.ret (.and2 (.cmp .Eq (.callP "_law_told" (.cons (.int 1) (.cons (.var 1) (.cons (.str "a") .nil)))) (.var 2)) (.cmp .Eq (.callP "_law_told" (.cons (.int 1) (.cons (.var 1) (.cons (.var 3) .nil)))) (.var 2)))) .nil) .nil) (.cons (.for_ (.nm 4) (.it (.var 1)) l__law_right_1) (.cons (.set 6 (.callS "_law_word" (.cons (.var 0) .nil))) (.cons (.iff (.and2 (.cmp .Eq (.lc [4] (.nm 4) (.it (.var 1)) (.cmp .In (.var 6) (.var 4)) (.var 4)) (.lst .nil)) (.cmp .NotEq (.callP "_law_told" (.cons (.int 1) (.cons (.var 1) (.cons (.var 6) .nil)))) (.tup (.cons (.var 6) .nil)))) (.cons (.ret (.bl false)) .nil) .nil) (.cons (.ret (.cmp .Eq (.callP "_law_told" (.cons (.int 1) (.cons (.var 1) (.cons (.var 3) .nil)))) (.lst (.cons (.str "place") .nil)))) .nil))))))))
theorem c__law_right : Ev.chkSs n__law_right (defScope s__law_right) b__law_right (defBody s__law_right) = true := by decide +kernel
theorem sc__law_right : FnScope n__law_right p__law_right (defScope s__law_right) := ⟨rfl, rfl, rfl, by decide +kernel, rfl, by decide +kernel, by decide +kernel⟩
def f__law_right : List Ev.W → Ev.Store → Ev.R Ev.W := Ev.runS G19 7 2 b__law_right
def G20 : Ev.Gt := G19.addS "_law_right" f__law_right
def n_law : List Str := ["_law_script", "_law_k", "_law_cell", "_law_state", "_law_bends", "_law_calls_here", "_law_some", "_law_thing"]
def p_law : List Str := ["_law_script"]
def l_law_0 : Ev.Ss := (.cons (.set 3 (.callS "_law_draw" (.cons (.var 2) (.cons (.var 1) .nil)))) (.cons (.set 4 (.callS "_law_digit" (.cons (.var 3) (.cons (.int 3) .nil)))) (.cons (.set 5 (.callS "_law_calls" (.cons (.var 3) .nil))) (.cons (.set 6 (.lstc (.cons (.var 5) (.cons (.callS "_law_bent" (.cons (.var 3) (.cons (.var 5) .nil))) (.cons (.tup .nil) (.cons (.tup (.cons (.tup (.cons (.str "a") (.cons (.str "b") .nil))) (.cons (.tup (.cons (.str "a") (.cons (.str "b") .nil))) .nil))) .nil)))))) (.cons (.iff (.and2 (.cmp .Eq (.var 4) (.int 2)) (.isi (.sub (.var 6) (.int 1)) .tuple)) (.cons (.app (.var 6) (.callS "_law_bent" (.cons (.var 3) (.cons (.slc (.sub (.var 6) (.int 1)) .absent (.int 6)) .nil)))) .nil) .nil) (.cons (.iff (.or2 (.cmp .IsNot (.callP "_law_due" (.cons (.var 5) .nil)) .non) (.cmp .NotEq (.lc [7] (.nm 7) (.it (.var 6)) (.not (.callS "_law_right" (.cons (.var 3) (.cons (.var 7) .nil)))) (.var 7)) (.lst .nil))) (.cons (.ret (.bl false)) .nil) .nil) .nil))))))
def b_law : Ev.Ss := (.cons (.for_ (.cons (.nm 1) (.cons (.nm 2) .nil)) (.enm (.bin .Add (.slc (.var 0) .absent (.int 12)) (.lst (.cons (.bi .sum (.cons (.var 0) .nil)) .nil)))) l_law_0) (.cons (.ret (.bl true)) .nil))
theorem c_law : Ev.chkSs n_law (defScope s_law) b_law (defBody s_law) = true := by decide +kernel
theorem sc_law : FnScope n_law p_law (defScope s_law) := ⟨rfl, rfl, rfl, by decide +kernel, rfl, by decide +kernel, by decide +kernel⟩
def f_law : List Ev.D → Option (Except Ev.Xv Ev.D) := Ev.runP G20 8 1 b_law
def G21 : Ev.Gt := G20.addP "law" f_law
def n_BadRow___init__ : List Str := ["self", "row", "word"]
theorem sc_BadRow___init__ : FnScope n_BadRow___init__ n_BadRow___init__ (defScope s_BadRow___init__) := ⟨rfl, rfl, rfl, by decide +kernel, rfl, by decide +kernel, by decide +kernel⟩
def n_BadCalls___init__ : List Str := ["self", "number"]
theorem sc_BadCalls___init__ : FnScope n_BadCalls___init__ n_BadCalls___init__ (defScope s_BadCalls___init__) := ⟨rfl, rfl, rfl, by decide +kernel, rfl, by decide +kernel, by decide +kernel⟩
def n_BadPrices___init__ : List Str := ["self", "number"]
theorem sc_BadPrices___init__ : FnScope n_BadPrices___init__ n_BadPrices___init__ (defScope s_BadPrices___init__) := ⟨rfl, rfl, rfl, by decide +kernel, rfl, by decide +kernel, by decide +kernel⟩
def n_BadList___init__ : List Str := ["self", "part", "number"]
theorem sc_BadList___init__ : FnScope n_BadList___init__ n_BadList___init__ (defScope s_BadList___init__) := ⟨rfl, rfl, rfl, by decide +kernel, rfl, by decide +kernel, by decide +kernel⟩
def n_BadWays___init__ : List Str := ["self", "number"]
theorem sc_BadWays___init__ : FnScope n_BadWays___init__ n_BadWays___init__ (defScope s_BadWays___init__) := ⟨rfl, rfl, rfl, by decide +kernel, rfl, by decide +kernel, by decide +kernel⟩
def n_BadSet___init__ : List Str := ["self", "number"]
theorem sc_BadSet___init__ : FnScope n_BadSet___init__ n_BadSet___init__ (defScope s_BadSet___init__) := ⟨rfl, rfl, rfl, by decide +kernel, rfl, by decide +kernel, by decide +kernel⟩
def n_BadPaper___init__ : List Str := ["self", "place"]
theorem sc_BadPaper___init__ : FnScope n_BadPaper___init__ n_BadPaper___init__ (defScope s_BadPaper___init__) := ⟨rfl, rfl, rfl, by decide +kernel, rfl, by decide +kernel, by decide +kernel⟩
theorem facts {P : Program} {w : World} {K : PySem.W.Frag} {h : Heap} {mg : Str → Option Value} {f : Addr} (X : K.In h) (Gm : h.Ns mainGlobals mg) (hfa : mg ("law" : Str) = some (.ref f)) (c0 : He.SaysD faB fn K) (hxF : exF K = true) :
    ∃ fd : FuncData, (∀ (s : Shared) (v : Value), BindsTo s fd ⟨[v], []⟩ [("_law_script", v)]) ∧ ∀ base : Heap, K.In base → base.Ns mainGlobals mg → Ev.FnG P w K mg base 23 f fd ["_law_script"] (Ev.spP (Ev.isXv K) K 1 f_law) := by
  obtain ⟨fd__law_draw, F__law_draw⟩ := c0.def_ 17 (d := d__law_draw) rfl
  obtain ⟨fd__law_mixed, F__law_mixed⟩ := c0.def_ 15 (d := d__law_mixed) rfl
  obtain ⟨fd__law_digit, F__law_digit⟩ := c0.def_ 18 (d := d__law_digit) rfl
  obtain ⟨fd__law_word, F__law_word⟩ := c0.def_ 19 (d := d__law_word) rfl
  obtain ⟨fd__law_calls, F__law_calls⟩ := c0.def_ 20 (d := d__law_calls) rfl
  obtain ⟨fd__law_bent, F__law_bent⟩ := c0.def_ 24 (d := d__law_bent) rfl
  obtain ⟨fd__law_is_name, F__law_is_name⟩ := c0.def_ 21 (d := d__law_is_name) rfl
  obtain ⟨fd__law_is_group, F__law_is_group⟩ := c0.def_ 22 (d := d__law_is_group) rfl
  obtain ⟨fd__law_due, F__law_due⟩ := c0.def_ 23 (d := d__law_due) rfl
  obtain ⟨fd__law_kinds, F__law_kinds⟩ := c0.def_ 16 (d := d__law_kinds) rfl
  obtain ⟨fd_is_name, F_is_name⟩ := c0.def_ 7 (d := d_is_name) rfl
  obtain ⟨fd_is_group, F_is_group⟩ := c0.def_ 8 (d := d_is_group) rfl
  obtain ⟨fd_bad_group, F_bad_group⟩ := c0.def_ 9 (d := d_bad_group) rfl
  obtain ⟨fd_are_calls, F_are_calls⟩ := c0.def_ 10 (d := d_are_calls) rfl
  obtain ⟨fd_need_calls, F_need_calls⟩ := c0.def_ 12 (d := d_need_calls) rfl
  obtain ⟨fd_group_in, F_group_in⟩ := c0.def_ 13 (d := d_group_in) rfl
  obtain ⟨fd_group_of, F_group_of⟩ := c0.def_ 14 (d := d_group_of) rfl
  obtain ⟨fd__law_told, F__law_told⟩ := c0.def_ 25 (d := d__law_told) rfl
  obtain ⟨fd_is_calls, F_is_calls⟩ := c0.def_ 11 (d := d_is_calls) rfl
  obtain ⟨fd__law_right, F__law_right⟩ := c0.def_ 26 (d := d__law_right) rfl
  obtain ⟨fd_law, F_law⟩ := c0.def_ 27 (d := d_law) rfl
  have inB : ∀ {q : He.Fa}, q ∈ fa → q ∈ faB := fun h => List.mem_append_left _ h
  have m__law_draw := He.glo_ok X Gm (c0.facts (f := .glo "_law_draw") (inB (by simp [fa, fa_0, fa_1, fa_2])))
  have m__law_mixed := He.glo_ok X Gm (c0.facts (f := .glo "_law_mixed") (inB (by simp [fa, fa_0, fa_1, fa_2])))
  have m__law_digit := He.glo_ok X Gm (c0.facts (f := .glo "_law_digit") (inB (by simp [fa, fa_0, fa_1, fa_2])))
  have m__law_word := He.glo_ok X Gm (c0.facts (f := .glo "_law_word") (inB (by simp [fa, fa_0, fa_1, fa_2])))
  have m__law_calls := He.glo_ok X Gm (c0.facts (f := .glo "_law_calls") (inB (by simp [fa, fa_0, fa_1, fa_2])))
  have m__law_bent := He.glo_ok X Gm (c0.facts (f := .glo "_law_bent") (inB (by simp [fa, fa_0, fa_1, fa_2])))
  have m__law_is_name := He.glo_ok X Gm (c0.facts (f := .glo "_law_is_name") (inB (by simp [fa, fa_0, fa_1, fa_2])))
  have m__law_is_group := He.glo_ok X Gm (c0.facts (f := .glo "_law_is_group") (inB (by simp [fa, fa_0, fa_1, fa_2])))
  have m__law_due := He.glo_ok X Gm (c0.facts (f := .glo "_law_due") (inB (by simp [fa, fa_0, fa_1, fa_2])))
  have m__law_kinds := He.glo_ok X Gm (c0.facts (f := .glo "_law_kinds") (inB (by simp [fa, fa_0, fa_1, fa_2])))
  have m_is_name := He.glo_ok X Gm (c0.facts (f := .glo "is_name") (inB (by simp [fa, fa_0, fa_1, fa_2])))
  have m_is_group := He.glo_ok X Gm (c0.facts (f := .glo "is_group") (inB (by simp [fa, fa_0, fa_1, fa_2])))
  have m_bad_group := He.glo_ok X Gm (c0.facts (f := .glo "bad_group") (inB (by simp [fa, fa_0, fa_1, fa_2])))
  have m_are_calls := He.glo_ok X Gm (c0.facts (f := .glo "are_calls") (inB (by simp [fa, fa_0, fa_1, fa_2])))
  have m_need_calls := He.glo_ok X Gm (c0.facts (f := .glo "need_calls") (inB (by simp [fa, fa_0, fa_1, fa_2])))
  have m_group_in := He.glo_ok X Gm (c0.facts (f := .glo "group_in") (inB (by simp [fa, fa_0, fa_1, fa_2])))
  have m_group_of := He.glo_ok X Gm (c0.facts (f := .glo "group_of") (inB (by simp [fa, fa_0, fa_1, fa_2])))
  have m__law_told := He.glo_ok X Gm (c0.facts (f := .glo "_law_told") (inB (by simp [fa, fa_0, fa_1, fa_2])))
  have m_is_calls := He.glo_ok X Gm (c0.facts (f := .glo "is_calls") (inB (by simp [fa, fa_0, fa_1, fa_2])))
  have m__law_right := He.glo_ok X Gm (c0.facts (f := .glo "_law_right") (inB (by simp [fa, fa_0, fa_1, fa_2])))
  have m_law := He.glo_ok X Gm (c0.facts (f := .glo "law") (inB (by simp [fa, fa_0, fa_1, fa_2])))
  have bn__law_draw : L2.Binds K fd__law_draw p__law_draw [] := F__law_draw.bindsN fun _ _ _ _ _ _ us hl => match us, hl with | [_, _], _ => rfl
  have bn__law_mixed : L2.Binds K fd__law_mixed p__law_mixed [] := F__law_mixed.bindsN fun _ _ _ _ _ _ us hl => match us, hl with | [_, _], _ => rfl
  have bn__law_digit : L2.Binds K fd__law_digit p__law_digit [] := F__law_digit.bindsN fun _ _ _ _ _ _ us hl => match us, hl with | [_, _], _ => rfl
  have bn__law_word : L2.Binds K fd__law_word p__law_word [] := F__law_word.bindsN fun _ _ _ _ _ _ us hl => match us, hl with | [_], _ => rfl
  have bn__law_calls : L2.Binds K fd__law_calls p__law_calls [] := F__law_calls.bindsN fun _ _ _ _ _ _ us hl => match us, hl with | [_], _ => rfl
  have bn__law_bent : L2.Binds K fd__law_bent p__law_bent [] := F__law_bent.bindsN fun _ _ _ _ _ _ us hl => match us, hl with | [_, _], _ => rfl
  have bn__law_is_name : L2.Binds K fd__law_is_name p__law_is_name [] := F__law_is_name.bindsN fun _ _ _ _ _ _ us hl => match us, hl with | [_], _ => rfl
  have bn__law_is_group : L2.Binds K fd__law_is_group p__law_is_group [] := F__law_is_group.bindsN fun _ _ _ _ _ _ us hl => match us, hl with | [_], _ => rfl
  have bn__law_due : L2.Binds K fd__law_due p__law_due [] := F__law_due.bindsN fun _ _ _ _ _ _ us hl => match us, hl with | [_], _ => rfl
  have bn__law_kinds : L2.Binds K fd__law_kinds p__law_kinds [] := F__law_kinds.bindsN fun _ _ _ _ _ _ us hl => match us, hl with | [_], _ => rfl
  have bn_is_name : L2.Binds K fd_is_name p_is_name [] := F_is_name.bindsN fun _ _ _ _ _ _ us hl => match us, hl with | [_], _ => rfl
  have bn_is_group : L2.Binds K fd_is_group p_is_group [] := F_is_group.bindsN fun _ _ _ _ _ _ us hl => match us, hl with | [_], _ => rfl
  have bn_bad_group : L2.Binds K fd_bad_group p_bad_group [] := F_bad_group.bindsN fun _ _ _ _ _ _ us hl => match us, hl with | [_], _ => rfl
  have bn_are_calls : L2.Binds K fd_are_calls p_are_calls [] := F_are_calls.bindsN fun _ _ _ _ _ _ us hl => match us, hl with | [_], _ => rfl
  have bn_need_calls : L2.Binds K fd_need_calls p_need_calls [] := F_need_calls.bindsN fun _ _ _ _ _ _ us hl => match us, hl with | [_], _ => rfl
  have bn_group_in : L2.Binds K fd_group_in p_group_in [] := F_group_in.bindsN fun _ _ _ _ _ _ us hl => match us, hl with | [_, _], _ => rfl
  have bn_group_of : L2.Binds K fd_group_of p_group_of [] := F_group_of.bindsN fun _ _ _ _ _ _ us hl => match us, hl with | [_, _], _ => rfl
  have bn__law_told : L2.Binds K fd__law_told p__law_told [] := F__law_told.bindsN fun _ _ _ _ _ _ us hl => match us, hl with | [_, _, _], _ => rfl
  have bn_is_calls : L2.Binds K fd_is_calls p_is_calls [] := F_is_calls.bindsN fun _ _ _ _ _ _ us hl => match us, hl with | [_], _ => rfl
  have bn__law_right : L2.Binds K fd__law_right p__law_right [] := F__law_right.bindsN fun _ _ _ _ _ _ us hl => match us, hl with | [_, _], _ => rfl
  have bn_law : L2.Binds K fd_law p_law [] := F_law.bindsN fun _ _ _ _ _ _ us hl => match us, hl with | [_], _ => rfl
  have e := hfa.symm.trans m_law
  cases e
  have b := FunD.bindsA (ps := p_law) F_law fun _ _ _ _ _ _ us hl => match us, hl with | [_], _ => rfl
  refine ⟨fd_law, fun s v => b s [v] rfl, fun base _ _ => ?_⟩
  have nmX : ∀ c ∈ xt.names, mg c = some (.ref (He.ga K c)) := by
    intro c hc
    simp only [xt, List.mem_cons, List.mem_nil_iff, or_false] at hc
    rcases hc with rfl | rfl | rfl | rfl | rfl | rfl | rfl | rfl | rfl | rfl | rfl | rfl
    · exact He.glo_ok X Gm (c0.facts (f := .glo "ListError") (inB (by simp [fa, fa_0, fa_1, fa_2])))
    · exact He.glo_ok X Gm (c0.facts (f := .glo "BadRow") (inB (by simp [fa, fa_0, fa_1, fa_2])))
    · exact He.glo_ok X Gm (c0.facts (f := .glo "BadCalls") (inB (by simp [fa, fa_0, fa_1, fa_2])))
    · exact He.glo_ok X Gm (c0.facts (f := .glo "BadPrices") (inB (by simp [fa, fa_0, fa_1, fa_2])))
    · exact He.glo_ok X Gm (c0.facts (f := .glo "BadList") (inB (by simp [fa, fa_0, fa_1, fa_2])))
    · exact He.glo_ok X Gm (c0.facts (f := .glo "BadWays") (inB (by simp [fa, fa_0, fa_1, fa_2])))
    · exact He.glo_ok X Gm (c0.facts (f := .glo "BadSet") (inB (by simp [fa, fa_0, fa_1, fa_2])))
    · exact He.glo_ok X Gm (c0.facts (f := .glo "BadPaper") (inB (by simp [fa, fa_0, fa_1, fa_2])))
    · exact He.glo_ok X Gm (c0.facts (f := .glo "Twice") (inB (by simp [fa, fa_0, fa_1, fa_2])))
    · exact He.glo_ok X Gm (c0.facts (f := .glo "OutOfPlace") (inB (by simp [fa, fa_0, fa_1, fa_2])))
    · exact He.glo_ok X Gm (c0.facts (f := .glo "TooGreat") (inB (by simp [fa, fa_0, fa_1, fa_2])))
    · exact He.glo_ok X Gm (c0.facts (f := .glo "Nothing") (inB (by simp [fa, fa_0, fa_1, fa_2])))
  simp only [exF, Bool.and_eq_true] at hxF
  obtain ⟨hxt, hxr⟩ := hxF
  obtain ⟨hxb_ListError, hxr⟩ := hxr
  obtain ⟨fd_BadRow___init__, F_BadRow___init__⟩ := c0.def_ 0 (d := d_BadRow___init__) rfl
  have bn_BadRow___init__ : L2.Binds K fd_BadRow___init__ n_BadRow___init__ [] := F_BadRow___init__.bindsN fun _ _ _ _ _ _ us hl => match us, hl with | [_, _, _], _ => rfl
  obtain ⟨fd_BadCalls___init__, F_BadCalls___init__⟩ := c0.def_ 1 (d := d_BadCalls___init__) rfl
  have bn_BadCalls___init__ : L2.Binds K fd_BadCalls___init__ n_BadCalls___init__ [] := F_BadCalls___init__.bindsN fun _ _ _ _ _ _ us hl => match us, hl with | [_, _], _ => rfl
  obtain ⟨fd_BadPrices___init__, F_BadPrices___init__⟩ := c0.def_ 2 (d := d_BadPrices___init__) rfl
  have bn_BadPrices___init__ : L2.Binds K fd_BadPrices___init__ n_BadPrices___init__ [] := F_BadPrices___init__.bindsN fun _ _ _ _ _ _ us hl => match us, hl with | [_, _], _ => rfl
  obtain ⟨fd_BadList___init__, F_BadList___init__⟩ := c0.def_ 3 (d := d_BadList___init__) rfl
  have bn_BadList___init__ : L2.Binds K fd_BadList___init__ n_BadList___init__ [] := F_BadList___init__.bindsN fun _ _ _ _ _ _ us hl => match us, hl with | [_, _, _], _ => rfl
  obtain ⟨fd_BadWays___init__, F_BadWays___init__⟩ := c0.def_ 4 (d := d_BadWays___init__) rfl
  have bn_BadWays___init__ : L2.Binds K fd_BadWays___init__ n_BadWays___init__ [] := F_BadWays___init__.bindsN fun _ _ _ _ _ _ us hl => match us, hl with | [_, _], _ => rfl
  obtain ⟨fd_BadSet___init__, F_BadSet___init__⟩ := c0.def_ 5 (d := d_BadSet___init__) rfl
  have bn_BadSet___init__ : L2.Binds K fd_BadSet___init__ n_BadSet___init__ [] := F_BadSet___init__.bindsN fun _ _ _ _ _ _ us hl => match us, hl with | [_, _], _ => rfl
  obtain ⟨fd_BadPaper___init__, F_BadPaper___init__⟩ := c0.def_ 6 (d := d_BadPaper___init__) rfl
  have bn_BadPaper___init__ : L2.Binds K fd_BadPaper___init__ n_BadPaper___init__ [] := F_BadPaper___init__.bindsN fun _ _ _ _ _ _ us hl => match us, hl with | [_, _], _ => rfl
  have says : xt.Says P w K mg base := by
    refine Ev.XT.says hxt (by decide +kernel) nmX (fun _ => He.free_ok X Gm (c0.facts (f := .free "ValueError") (inB (by simp [fa, fa_0, fa_1, fa_2])))) fun c f fs hm => ?_
    have hm0 := hm
    simp only [xt, List.mem_cons, List.mem_nil_iff, or_false, Prod.mk.injEq] at hm
    rcases hm with ⟨rfl, rfl, rfl⟩ | ⟨rfl, rfl, rfl⟩ | ⟨rfl, rfl, rfl⟩ | ⟨rfl, rfl, rfl⟩ | ⟨rfl, rfl, rfl⟩ | ⟨rfl, rfl, rfl⟩ | ⟨rfl, rfl, rfl⟩
    · exact Ev.ini_fn (bs := "ListError") (self := "self") (p := "row") (ps := ["word"]) F_BadRow___init__ hxt hm0 hxb_ListError (nmX _ (by simp [xt])) sc_BadRow___init__ (by decide +kernel) (by decide) (by decide +kernel) (by decide +kernel) (by decide) rfl bn_BadRow___init__
    · exact Ev.ini_fn (bs := "ListError") (self := "self") (p := "number") (ps := []) F_BadCalls___init__ hxt hm0 hxb_ListError (nmX _ (by simp [xt])) sc_BadCalls___init__ (by decide +kernel) (by decide) (by decide +kernel) (by decide +kernel) (by decide) rfl bn_BadCalls___init__
    · exact Ev.ini_fn (bs := "ListError") (self := "self") (p := "number") (ps := []) F_BadPrices___init__ hxt hm0 hxb_ListError (nmX _ (by simp [xt])) sc_BadPrices___init__ (by decide +kernel) (by decide) (by decide +kernel) (by decide +kernel) (by decide) rfl bn_BadPrices___init__
    · exact Ev.ini_fn (bs := "ListError") (self := "self") (p := "part") (ps := ["number"]) F_BadList___init__ hxt hm0 hxb_ListError (nmX _ (by simp [xt])) sc_BadList___init__ (by decide +kernel) (by decide) (by decide +kernel) (by decide +kernel) (by decide) rfl bn_BadList___init__
    · exact Ev.ini_fn (bs := "ListError") (self := "self") (p := "number") (ps := []) F_BadWays___init__ hxt hm0 hxb_ListError (nmX _ (by simp [xt])) sc_BadWays___init__ (by decide +kernel) (by decide) (by decide +kernel) (by decide +kernel) (by decide) rfl bn_BadWays___init__
    · exact Ev.ini_fn (bs := "ListError") (self := "self") (p := "number") (ps := []) F_BadSet___init__ hxt hm0 hxb_ListError (nmX _ (by simp [xt])) sc_BadSet___init__ (by decide +kernel) (by decide) (by decide +kernel) (by decide +kernel) (by decide) rfl bn_BadSet___init__
    · exact Ev.ini_fn (bs := "ListError") (self := "self") (p := "place") (ps := []) F_BadPaper___init__ hxt hm0 hxb_ListError (nmX _ (by simp [xt])) sc_BadPaper___init__ (by decide +kernel) (by decide) (by decide +kernel) (by decide +kernel) (by decide) rfl bn_BadPaper___init__
  have g0 : Ev.Glob G0 (Ev.isXv K) P w K mg base 2 := by
    refine Ev.glob_start says (fun x d h => ?_) (fun x hx => He.free_ok X Gm (c0.facts (f := .free x) (List.mem_append_right _ (List.mem_map_of_mem hx))))
    unfold con0 at h
    try dsimp only at h
    by_cases e_LETTERS : x = "LETTERS"
    · rw [if_pos e_LETTERS] at h; cases h; subst e_LETTERS
      obtain ⟨t, ht⟩ := He.str_ok X Gm (c0.facts (f := .str "LETTERS" "abcdefghijklmnopqrstuvwxyz") (inB (by simp [fa, fa_0, fa_1, fa_2])))
      exact ⟨.str "abcdefghijklmnopqrstuvwxyz", _, ht, ⟨t, rfl⟩, fun _ => .str _⟩
    rw [if_neg e_LETTERS] at h
    by_cases e_MOST_LETTERS : x = "MOST_LETTERS"
    · rw [if_pos e_MOST_LETTERS] at h; cases h; subst e_MOST_LETTERS
      obtain ⟨t, ht⟩ := He.int_ok X Gm (c0.facts (f := .int "MOST_LETTERS" 8) (inB (by simp [fa, fa_0, fa_1, fa_2])))
      exact ⟨.int 8, _, ht, ⟨t, rfl⟩, fun _ => .int _⟩
    rw [if_neg e_MOST_LETTERS] at h
    by_cases e_MOST_GROUPS : x = "MOST_GROUPS"
    · rw [if_pos e_MOST_GROUPS] at h; cases h; subst e_MOST_GROUPS
      obtain ⟨t, ht⟩ := He.int_ok X Gm (c0.facts (f := .int "MOST_GROUPS" 6) (inB (by simp [fa, fa_0, fa_1, fa_2])))
      exact ⟨.int 6, _, ht, ⟨t, rfl⟩, fun _ => .int _⟩
    rw [if_neg e_MOST_GROUPS] at h
    by_cases e_MOST_NAMES : x = "MOST_NAMES"
    · rw [if_pos e_MOST_NAMES] at h; cases h; subst e_MOST_NAMES
      obtain ⟨t, ht⟩ := He.int_ok X Gm (c0.facts (f := .int "MOST_NAMES" 4) (inB (by simp [fa, fa_0, fa_1, fa_2])))
      exact ⟨.int 4, _, ht, ⟨t, rfl⟩, fun _ => .int _⟩
    rw [if_neg e_MOST_NAMES] at h
    cases h
  have g1 := g0.addS (x := "_law_draw") (fun _ _ h => Ev.runS_len h) (Ev.fnS g0 F__law_draw sc__law_draw c__law_draw) m__law_draw F__law_draw.kp bn__law_draw
  have g2 := g1.addP (x := "_law_mixed") (fun _ _ h => Ev.runP_len h) (Ev.fnP g1 F__law_mixed sc__law_mixed c__law_mixed) m__law_mixed F__law_mixed.kp bn__law_mixed
  have g3 := g2.addS (x := "_law_digit") (fun _ _ h => Ev.runS_len h) (Ev.fnS g2 F__law_digit sc__law_digit c__law_digit) m__law_digit F__law_digit.kp bn__law_digit
  have g4 := g3.addS (x := "_law_word") (fun _ _ h => Ev.runS_len h) (Ev.fnS g3 F__law_word sc__law_word c__law_word) m__law_word F__law_word.kp bn__law_word
  have g5 := g4.addS (x := "_law_calls") (fun _ _ h => Ev.runS_len h) (Ev.fnS g4 F__law_calls sc__law_calls c__law_calls) m__law_calls F__law_calls.kp bn__law_calls
  have g6 := g5.addS (x := "_law_bent") (fun _ _ h => Ev.runS_len h) (Ev.fnS g5 F__law_bent sc__law_bent c__law_bent) m__law_bent F__law_bent.kp bn__law_bent
  have g7 := g6.addP (x := "_law_is_name") (fun _ _ h => Ev.runP_len h) (Ev.fnP g6 F__law_is_name sc__law_is_name c__law_is_name) m__law_is_name F__law_is_name.kp bn__law_is_name
  have g8 := g7.addP (x := "_law_is_group") (fun _ _ h => Ev.runP_len h) (Ev.fnP g7 F__law_is_group sc__law_is_group c__law_is_group) m__law_is_group F__law_is_group.kp bn__law_is_group
  have g9 := g8.addP (x := "_law_due") (fun _ _ h => Ev.runP_len h) (Ev.fnP g8 F__law_due sc__law_due c__law_due) m__law_due F__law_due.kp bn__law_due
  have g10 := g9.addP (x := "_law_kinds") (fun _ _ h => Ev.runP_len h) (Ev.fnP g9 F__law_kinds sc__law_kinds c__law_kinds) m__law_kinds F__law_kinds.kp bn__law_kinds
  have g11 := g10.addP (x := "is_name") (fun _ _ h => Ev.runP_len h) (Ev.fnP g10 F_is_name sc_is_name c_is_name) m_is_name F_is_name.kp bn_is_name
  have g12 := g11.addP (x := "is_group") (fun _ _ h => Ev.runP_len h) (Ev.fnP g11 F_is_group sc_is_group c_is_group) m_is_group F_is_group.kp bn_is_group
  have g13 := g12.addP (x := "bad_group") (fun _ _ h => Ev.runP_len h) (Ev.fnP g12 F_bad_group sc_bad_group c_bad_group) m_bad_group F_bad_group.kp bn_bad_group
  have g14 := g13.addP (x := "are_calls") (fun _ _ h => Ev.runP_len h) (Ev.fnP g13 F_are_calls sc_are_calls c_are_calls) m_are_calls F_are_calls.kp bn_are_calls
  have g15 := g14.addP (x := "need_calls") (fun _ _ h => Ev.runP_len h) (Ev.fnP g14 F_need_calls sc_need_calls c_need_calls) m_need_calls F_need_calls.kp bn_need_calls
  have g16 := g15.addP (x := "group_in") (fun _ _ h => Ev.runP_len h) (Ev.fnP g15 F_group_in sc_group_in c_group_in) m_group_in F_group_in.kp bn_group_in
  have g17 := g16.addP (x := "group_of") (fun _ _ h => Ev.runP_len h) (Ev.fnP g16 F_group_of sc_group_of c_group_of) m_group_of F_group_of.kp bn_group_of
  have g18 := g17.addP (x := "_law_told") (fun _ _ h => Ev.runP_len h) (Ev.fnP g17 F__law_told sc__law_told c__law_told) m__law_told F__law_told.kp bn__law_told
  have g19 := g18.addP (x := "is_calls") (fun _ _ h => Ev.runP_len h) (Ev.fnP g18 F_is_calls sc_is_calls c_is_calls) m_is_calls F_is_calls.kp bn_is_calls
  have g20 := g19.addS (x := "_law_right") (fun _ _ h => Ev.runS_len h) (Ev.fnS g19 F__law_right sc__law_right c__law_right) m__law_right F__law_right.kp bn__law_right
  exact Ev.fnP g20 F_law sc_law c_law
end HX
set_option linter.all false
set_option maxRecDepth 100000
set_option maxHeartbeats 1000000
namespace HX
open PySem Ev
theorem lname (x : D) (hx : okX x = true) : f__law_is_name [x] = some (.ok (.bl (nameB x))) := law_name_ok (G := G6) x hx
theorem lgroup (x : D) (hx : okG x = true) : f__law_is_group [x] = some (.ok (.bl (groupB x))) := law_group_ok (G := G7) (F := f__law_is_name) rfl lname x hx
theorem ldue (x : D) (hx : okT x = true) : f__law_due [x] = some (.ok (dueV (callsX x))) := due_ok (G := G8) (F := f__law_is_group) rfl lgroup x hx
theorem pname (x : D) (hx : okX x = true) : f_is_name [x] = some (.ok (.bl (nameB x))) := name_ok (G := G10) (by kernel_rfl) (by kernel_rfl) x hx
theorem pgroup (x : D) (hx : okG x = true) : f_is_group [x] = some (.ok (.bl (groupB x))) := group_ok (G := G11) (F := f_is_name) (by kernel_rfl) rfl pname x hx
theorem pbad (ds : List D) (hx : okT (.tup ds) = true) (hl : ds.length ≤ 100) : f_bad_group [.tup ds] = some (.ok (numV (badFrom 0 none [] ds))) := bad_ok (G := G12) (F := f_is_group) rfl pgroup ds hx hl
theorem pare (x : D) (hx : okT x = true) : f_are_calls [x] = some (.ok (.bl (areB x))) := are_ok (G := G13) (by kernel_rfl) x hx
theorem pneed (x : D) (hx : okT x = true) : f_need_calls [x] = some (needV (callsX x)) := need_ok (G := G14) (F1 := f_are_calls) (F2 := f_bad_group) rfl rfl (by kernel_rfl) pare pbad x hx
theorem pin (ds : List D) (w : Str) (hg : ∀ d ∈ ds, groupB d = true) (h6 : ds.length ≤ 6) : f_group_in [.tup ds, .str w] = some (.ok (groupV ds w)) := group_in_ok (G := G15) ds w hg h6
theorem pis (x : D) (hx : okT x = true) : f_is_calls [x] = some (.ok (.bl (callsX x).isNone)) := is_calls_ok (G := G18) (F1 := f_are_calls) (F2 := f_bad_group) rfl rfl pare pbad x hx
/-! ### group_of -/
theorem l16_need : G16.fp "need_calls" = some f_need_calls := by rfl
theorem l16_name : G16.fp "is_name" = some f_is_name := by rfl
theorem l16_in : G16.fp "group_in" = some f_group_in := by rfl
theorem mk_op : G16.mke "OutOfPlace" = some .own := by kernel_rfl
def badE : Option Nat → Xv
  | none => xBad .non
  | some i => xBad (.int (i : Nat))
theorem need_bad {o : Option Nat} : needV (some o) = .error (badE o) := by cases o <;> rfl
theorem of_bad (x w : D) (o : Option Nat) (hx : okT x = true) (h : callsX x = some o) : f_group_of [x, w] = some (.error (badE o)) := by
  have hn := pneed x hx
  rw [h, need_bad] at hn
  unfold f_group_of runP b_group_of
  rw [if_pos (by rfl)]
  have i0 : ini 2 ([x, w].map W.d) = [some (.d x), some (.d w)] := rfl
  have c : ev G16 (.callP "need_calls" (.cons (.var 0) .nil)) [some (.d x), some (.d w)] [] = .exc (badE o) [] := ev_callP1x l16_need (ev_var rfl) hn
  rw [i0, exs_cons, ex_expr, c, o_exc, then_exc, outP_exc]
theorem of_ok (x w : D) (hx : okT x = true) (h : callsX x = none) (hw : okX w = true) : f_group_of [x, w] = match w with
    | .str n => if nameB w = true then (match x with | .tup ds => some (.ok (groupV ds n)) | _ => none) else some (.error ⟨"OutOfPlace", [], []⟩)
    | _ => some (.error ⟨"OutOfPlace", [], []⟩) := by
  have hn := pneed x hx
  rw [h] at hn
  obtain ⟨ds, rfl, h6, hg, _⟩ := calls_valid h
  unfold f_group_of runP b_group_of
  rw [if_pos (by rfl)]
  have i0 : ini 2 ([.tup ds, w].map W.d) = [some (.d (.tup ds)), some (.d w)] := rfl
  have c : ev G16 (.callP "need_calls" (.cons (.var 0) .nil)) [some (.d (.tup ds)), some (.d w)] [] = .ok (.d .non) [] := ev_callP1 l16_need (ev_var rfl) hn
  have s1 : ex G16 (.expr (.callP "need_calls" (.cons (.var 0) .nil))) [some (.d (.tup ds)), some (.d w)] [] = .nx [some (.d (.tup ds)), some (.d w)] [] := by rw [ex_expr, c, R.o_ok]
  rw [i0, exs_nx s1]
  have c1 := ev_not_b (ev_callP1 (G := G16) (ro := [some (.d (.tup ds)), some (.d w)]) (st := []) l16_name (ev_var (i := 1) rfl) (pname w hw))
  rw [exs_cons, ex_iff_b c1]
  have rs := ex_raise (G := G16) (ro := [some (.d (.tup ds)), some (.d w)]) (st := []) (es := .cons (.str "no name") .nil) (ds := [.str "no name"]) (ks := []) (xs := []) mk_op (evs_d (ev_str _) evs_0) (by rfl)
  cases hb : nameB w with
  | false =>
    rw [if_pos (by rfl), exs_cons, rs, then_exc, then_exc, outP_exc]
    cases w <;> first | rfl | (simp [hb])
  | true =>
    cases w with
    | str n =>
      rw [if_neg (by decide), exs_nil, O.then_nx]
      have e := ev_callP2 (G := G16) (ro := [some (.d (.tup ds)), some (.d (.str n))]) (st := []) l16_in (ev_var (i := 0) rfl) (ev_var (i := 1) rfl) (pin ds n hg h6)
      rw [exs_ret (ex_ret_d e), outP_ret]
      simp [hb]
    | _ => cases hb
end HX
set_option linter.all false
set_option maxRecDepth 100000
set_option maxHeartbeats 1000000
namespace HX
open PySem Ev
theorem kinds_calls (ks : List Str) (xs : List D) : f__law_kinds [.exv "BadCalls" ks xs] = some (.ok (.lst [.str "calls"])) := by kernel_rfl
theorem kinds_place (ks : List Str) (xs : List D) : f__law_kinds [.exv "OutOfPlace" ks xs] = some (.ok (.lst [.str "place"])) := by kernel_rfl
def noneOr : D → D
  | .non => .str "none"
  | d => d
def callM : M := .ite (.cmp .Eq (.var 0) (.int 0)) (.callP "need_calls" (.cons (.var 1) .nil)) (.callP "group_of" (.cons (.var 1) (.cons (.var 2) .nil)))
def ro0 (way x w : D) : Ro := [some (.d way), some (.d x), some (.d w), some (.d .non), some (.d .non), none]
theorem told_b : b__law_told = .cons (.unp (.cons (.nm 3) (.cons (.nm 4) .nil)) (.tup (.cons .non (.cons .non .nil)))) (.cons (.tryk (.cons (.set 4 callM) .nil) "ListError" 5 3) (.cons (.iff (.cmp .Is (.var 3) .non) (.cons (.ret (.var 4)) .nil) .nil) (.cons (.iff (.or2 (.cmp .NotEq (.callP "_law_kinds" (.cons (.var 3) .nil)) (.lst (.cons (.str "calls") .nil))) (.isi (.fld (.var 3) "number") .bool)) (.cons (.ret (.callP "_law_kinds" (.cons (.var 3) .nil))) .nil) .nil) (.cons (.ret (.ite (.cmp .Is (.fld (.var 3) "number") .non) (.str "none") (.fld (.var 3) "number"))) .nil)))) := by rfl
theorem l_kinds : G17.fp "_law_kinds" = some f__law_kinds := by rfl
theorem exm_le : G17.exm "ListError" "ListError" = some true := by kernel_rfl
theorem exm_bp : G17.exm "BadCalls" "ListError" = some true := by kernel_rfl
theorem exm_op : G17.exm "OutOfPlace" "ListError" = some true := by kernel_rfl
theorem fld_bp : G17.fld "BadCalls" "number" = true := by kernel_rfl
theorem told_head (way x w : D) (rest : Ss) (o : O) (h : O.tryk G17 "ListError" 5 3 (exs G17 (.cons (.set 4 callM) .nil) (ro0 way x w) []) = o) :
    exs G17 (.cons (.unp (.cons (.nm 3) (.cons (.nm 4) .nil)) (.tup (.cons .non (.cons .non .nil)))) (.cons (.tryk (.cons (.set 4 callM) .nil) "ListError" 5 3) rest)) [some (.d way), some (.d x), some (.d w), none, none, none] [] = o.then fun ro st => exs G17 rest ro st := by
  have u : ex G17 (.unp (.cons (.nm 3) (.cons (.nm 4) .nil)) (.tup (.cons .non (.cons .non .nil)))) [some (.d way), some (.d x), some (.d w), none, none, none] [] = .nx (ro0 way x w) [] := by
    simp [ex, ev, evs, asgT, asgTs, ro0]
  rw [exs_cons, u, O.then_nx, exs_cons, ex_tryk, h]
theorem told_ok (way x w v : D) (hc : ev G17 callM (ro0 way x w) [] = .ok (.d v) []) : f__law_told [way, x, w] = some (.ok v) := by
  unfold f__law_told runP
  rw [if_pos (by rfl), told_b]
  have i0 : ini 6 ([way, x, w].map W.d) = [some (.d way), some (.d x), some (.d w), none, none, none] := rfl
  have b : exs G17 (.cons (.set 4 callM) .nil) (ro0 way x w) [] = .nx ((ro0 way x w).set 4 (some (.d v))) [] := by
    rw [exs_cons, ex_set_d hc (by simp [ro0]), O.then_nx, exs_nil]
  rw [i0, told_head _ _ _ _ _ (by rw [b, tryk_nx exm_le]), O.then_nx]
  have c1 : ev G17 (.cmp .Is (.var 3) .non) ((ro0 way x w).set 4 (some (.d v))) [] = .ok (.d (.bl true)) [] := by simp [ev, ro0, D.isNon]
  have c2 : ev G17 (.var 4) ((ro0 way x w).set 4 (some (.d v))) [] = .ok (.d v) [] := ev_var (by simp [ro0])
  simp only [exs_cons, ex_iff_b c1, if_true, ex_ret_d c2, then_ret, outP_ret]
theorem told_exc (way x w : D) (e : Xv) (he : G17.exm e.cls "ListError" = some true) (hc : ev G17 callM (ro0 way x w) [] = .exc e []) (v : D)
    (h : ∀ ro, ro[3]? = some (some (.d (.exv e.cls e.ks e.xs))) → outP (exs G17 (.cons (.iff (.or2 (.cmp .NotEq (.callP "_law_kinds" (.cons (.var 3) .nil)) (.lst (.cons (.str "calls") .nil))) (.isi (.fld (.var 3) "number") .bool)) (.cons (.ret (.callP "_law_kinds" (.cons (.var 3) .nil))) .nil) .nil) (.cons (.ret (.ite (.cmp .Is (.fld (.var 3) "number") .non) (.str "none") (.fld (.var 3) "number"))) .nil)) ro []) = some (.ok v)) :
    f__law_told [way, x, w] = some (.ok v) := by
  unfold f__law_told runP
  rw [if_pos (by rfl), told_b]
  have i0 : ini 6 ([way, x, w].map W.d) = [some (.d way), some (.d x), some (.d w), none, none, none] := rfl
  have b : exs G17 (.cons (.set 4 callM) .nil) (ro0 way x w) [] = .exc e (ro0 way x w) [] := by
    rw [exs_cons, ex_set, hc, o_exc, then_exc]
  rw [i0, told_head _ _ _ _ _ (by rw [b, tryk_exc exm_le he (by simp [ro0])]), O.then_nx]
  have c1 : ev G17 (.cmp .Is (.var 3) .non) ((((ro0 way x w).set 5 (some (.d (.exv e.cls e.ks e.xs)))).set 3 (some (.d (.exv e.cls e.ks e.xs)))).set 5 none) [] = .ok (.d (.bl false)) [] := by simp [ev, ro0, D.isNon]
  rw [exs_cons, ex_iff_b c1, if_neg (by decide), exs_nil, O.then_nx]
  exact h _ (by simp [ro0])
theorem told_bp (way x w n : D) (hn : n = .non ∨ ∃ i, n = .int i) (hc : ev G17 callM (ro0 way x w) [] = .exc ⟨"BadCalls", ["number"], [n]⟩ []) : f__law_told [way, x, w] = some (.ok (noneOr n)) := by
  refine told_exc way x w _ exm_bp hc _ fun ro h3 => ?_
  have k : ev G17 (.callP "_law_kinds" (.cons (.var 3) .nil)) ro [] = .ok (.d (.lst [.str "calls"])) [] := ev_callP1 l_kinds (ev_var h3) (kinds_calls _ _)
  have f : ev G17 (.fld (.var 3) "number") ro [] = .ok (.d n) [] := by simp [ev, h3, fldD, fld_bp, lookF, okW]
  have c1 : ev G17 (.cmp .NotEq (.callP "_law_kinds" (.cons (.var 3) .nil)) (.lst (.cons (.str "calls") .nil))) ro [] = .ok (.d (.bl false)) [] :=
    ev_cmp_d k (ev_lst_d (ds := [.str "calls"]) (evs_d (ev_str _) evs_0) (by decide)) (by rfl)
  have c2 : ev G17 (.isi (.fld (.var 3) "number") .bool) ro [] = .ok (.d (.bl false)) [] := ev_isi_d f (by rcases hn with rfl | ⟨i, rfl⟩ <;> rfl)
  have c := ev_or_b c1 fun _ => c2
  have r : ev G17 (.ite (.cmp .Is (.fld (.var 3) "number") .non) (.str "none") (.fld (.var 3) "number")) ro [] = .ok (.d (noneOr n)) [] := by
    rcases hn with rfl | ⟨i, rfl⟩
    · exact ev_ite_d (p := true) (y := .non) (ev_cmp_d f ev_non (by rfl)) (fun _ => ev_str _) fun z => by cases z
    · exact ev_ite_d (p := false) (x := .non) (ev_cmp_d f ev_non (by rfl)) (fun z => by cases z) fun _ => f
  rw [exs_cons, ex_iff_b c, if_neg (by decide), exs_nil, O.then_nx, exs_ret (ex_ret_d r), outP_ret]
theorem told_op (way x w : D) (hc : ev G17 callM (ro0 way x w) [] = .exc ⟨"OutOfPlace", [], []⟩ []) : f__law_told [way, x, w] = some (.ok (.lst [.str "place"])) := by
  refine told_exc way x w _ exm_op hc _ fun ro h3 => ?_
  have k : ev G17 (.callP "_law_kinds" (.cons (.var 3) .nil)) ro [] = .ok (.d (.lst [.str "place"])) [] := ev_callP1 l_kinds (ev_var h3) (kinds_place _ _)
  have c1 : ev G17 (.cmp .NotEq (.callP "_law_kinds" (.cons (.var 3) .nil)) (.lst (.cons (.str "calls") .nil))) ro [] = .ok (.d (.bl true)) [] :=
    ev_cmp_d k (ev_lst_d (ds := [.str "calls"]) (evs_d (ev_str _) evs_0) (by decide)) (by rfl)
  have c := ev_or_b (q := false) (b := .isi (.fld (.var 3) "number") .bool) c1 fun z => by cases z
  rw [exs_cons, ex_iff_b c, if_pos (by rfl), exs_ret (ex_ret_d k), then_ret, outP_ret]
theorem l17_need : G17.fp "need_calls" = some f_need_calls := by rfl
theorem l17_of : G17.fp "group_of" = some f_group_of := by rfl
theorem bad_v (o : Option Nat) : ∃ n, badE o = ⟨"BadCalls", ["number"], [n]⟩ ∧ (n = .non ∨ ∃ i, n = .int i) ∧ noneOr n = dueV (some o) := by
  cases o with
  | none => exact ⟨.non, rfl, .inl rfl, rfl⟩
  | some i => exact ⟨.int (i : Nat), rfl, .inr ⟨_, rfl⟩, rfl⟩
theorem told0 (x w : D) (hx : okT x = true) : f__law_told [.int 0, x, w] = some (.ok (dueV (callsX x))) := by
  have hn := pneed x hx
  cases h : callsX x with
  | none =>
    rw [h] at hn
    refine told_ok _ _ _ _ ?_
    have c : ev G17 (.callP "need_calls" (.cons (.var 1) .nil)) (ro0 (.int 0) x w) [] = .ok (.d .non) [] := ev_callP1 l17_need (ev_var rfl) hn
    exact ev_ite_d (p := true) (y := .non) (ev_cmp_d (ev_var (by rfl)) (ev_int 0) (cmp_eqI _ _)) (fun _ => c) fun z => by cases z
  | some o =>
    rw [h, need_bad] at hn
    obtain ⟨n, e, k, v⟩ := bad_v o
    rw [e] at hn
    rw [← v]
    refine told_bp _ _ _ n k ?_
    have c : ev G17 (.callP "need_calls" (.cons (.var 1) .nil)) (ro0 (.int 0) x w) [] = .exc ⟨"BadCalls", ["number"], [n]⟩ [] := ev_callP1x l17_need (ev_var rfl) hn
    unfold callM
    rw [ev_ite, ev_cmp_d (z := true) (ev_var (by rfl)) (ev_int 0) (cmp_eqI _ _), tst_bl, if_pos rfl, c]
theorem told1_bad (x w : D) (o : Option Nat) (hx : okT x = true) (h : callsX x = some o) : f__law_told [.int 1, x, w] = some (.ok (dueV (callsX x))) := by
  obtain ⟨n, e, k, v⟩ := bad_v o
  rw [h, ← v]
  have hb := of_bad x w o hx h
  rw [e] at hb
  refine told_bp _ _ _ n k ?_
  have c : ev G17 (.callP "group_of" (.cons (.var 1) (.cons (.var 2) .nil))) (ro0 (.int 1) x w) [] = .exc ⟨"BadCalls", ["number"], [n]⟩ [] := ev_callP2x l17_of (ev_var rfl) (ev_var rfl) hb
  unfold callM
  rw [ev_ite, ev_cmp_d (z := false) (ev_var (by rfl)) (ev_int 0) (cmp_eqI _ _), tst_bl, if_neg (by decide), c]
theorem told1_odd (x w : D) (hx : okT x = true) (hw : okX w = true) (h : callsX x = none) (ho : nameB w = false) : f__law_told [.int 1, x, w] = some (.ok (.lst [.str "place"])) := by
  refine told_op _ _ _ ?_
  have e : f_group_of [x, w] = some (.error ⟨"OutOfPlace", [], []⟩) := by
    rw [of_ok x w hx h hw]
    cases w <;> first | rfl | simp [ho]
  have c : ev G17 (.callP "group_of" (.cons (.var 1) (.cons (.var 2) .nil))) (ro0 (.int 1) x w) [] = .exc ⟨"OutOfPlace", [], []⟩ [] := ev_callP2x l17_of (ev_var rfl) (ev_var rfl) e
  unfold callM
  rw [ev_ite, ev_cmp_d (z := false) (ev_var (by rfl)) (ev_int 0) (cmp_eqI _ _), tst_bl, if_neg (by decide), c]
theorem told1_good (ds : List D) (n : Str) (hx : okT (.tup ds) = true) (h : callsX (.tup ds) = none) (hn : nameB (.str n) = true) : f__law_told [.int 1, .tup ds, .str n] = some (.ok (groupV ds n)) := by
  refine told_ok _ _ _ _ ?_
  have hw : okX (.str n) = true := by
    simp only [nameB, Bool.and_eq_true, decide_eq_true_eq] at hn
    exact decide_eq_true (by omega)
  have e : f_group_of [.tup ds, .str n] = some (.ok (groupV ds n)) := by
    rw [of_ok _ _ hx h hw]
    simp [hn]
  have c : ev G17 (.callP "group_of" (.cons (.var 1) (.cons (.var 2) .nil))) (ro0 (.int 1) (.tup ds) (.str n)) [] = .ok (.d (groupV ds n)) [] := ev_callP2 l17_of (ev_var rfl) (ev_var rfl) e
  exact ev_ite_d (p := false) (x := .non) (ev_cmp_d (ev_var (by rfl)) (ev_int 0) (cmp_eqI _ _)) (fun z => by cases z) fun _ => c
end HX
set_option linter.all false
set_option maxRecDepth 100000
set_option maxHeartbeats 1000000
namespace HX
open PySem Ev
def wordC : List D := [.str "a", .str "ab", .str "lent", .str "gone", .str "moved", .str "abc", .str "b"]
theorem wordC_name : ∀ x ∈ wordC, nameB x = true := by
  have : wordC.all nameB = true := by kernel_rfl
  exact List.all_eq_true.mp this
theorem word_ok {st : Store} {n : Nat} {T : Int} (hd : Drw st n T) (hT : T < 2 ^ 39) : ∃ (w : Str) (st' : Store), f__law_word [.cell n] st = .ok (.d (.str w)) st' ∧ nameB (.str w) = true ∧ Drw st' n (T + 200) ∧ Oth n st st' := by
  obtain ⟨cs, st1, e1, c1, c8, cl, w1, o1⟩ := signs_ok (G := G3) (Gd := G2) (Gm := G1) (by rfl) (by rfl) (ro := [some (.cell n), none, none]) (st := st) (n := n) rfl rfl hd (by omega)
  obtain ⟨jw, hj1, hj2⟩ := join_ok cs (by omega)
  obtain ⟨d, st2, e2, d0, d1, w2, o2⟩ := ev_digit (G := G3) (Gd := G2) (Gm := G1) (m := .int 8) (many := 8) (ro := [some (.cell n), some (.d (.lst (cs.map fun c => D.str (sg1 c)))), none]) (st := st1) (i := 0) (by rfl) (by rfl) rfl (ev_int 8) w1 (by decide) (by omega)
  obtain ⟨v, hv1, hv2, hv3⟩ := ix_mem (ds := .str jw :: wordC) d0 d1
  have hname : nameB v = true := by
    rcases List.mem_cons.mp hv3 with rfl | h
    · exact name_signs (by rw [hj2]; exact c1) (by rw [hj2]; exact c8) (by rw [hj2]; exact cl)
    · exact wordC_name v h
  obtain ⟨w, rfl⟩ : ∃ w, v = .str w := by
    cases v with
    | str w => exact ⟨w, rfl⟩
    | _ => cases hname
  refine ⟨w, st2, ?_, hname, w2.up (by omega), o1.trans o2⟩
  unfold f__law_word runS b__law_word
  rw [if_pos (by rfl)]
  have i0 : ini 3 [.cell n] = [some (.cell n), none, none] := rfl
  have s1 : ex G3 (.set 1 signsM) [some (.cell n), none, none] st = .nx [some (.cell n), some (.d (.lst (cs.map fun c => D.str (sg1 c)))), none] st1 := ex_set_d e1 (show 1 < 3 by decide)
  unfold signsM at s1
  rw [i0, exs_nx s1]
  have l : ev G3 (.lst (.cons (.mth .join (.str "") (.cons (.var 1) .nil)) (.cons (.str "a") (.cons (.str "ab") (.cons (.str "lent") (.cons (.str "gone") (.cons (.str "moved") (.cons (.str "abc") (.cons (.str "b") .nil))))))))) [some (.cell n), some (.d (.lst (cs.map fun c => D.str (sg1 c)))), none] st1 = .ok (.d (.lst (.str jw :: wordC))) st1 :=
    ev_lst_d (evs_d (ev_mth1 (ev_str _) (ev_var rfl) hj1) (evs_d (ev_str _) (evs_d (ev_str _) (evs_d (ev_str _) (evs_d (ev_str _) (evs_d (ev_str _) (evs_d (ev_str _) (evs_d (ev_str _) evs_0)))))))) (by simp [wordC])
  have s2 : ev G3 (.sub (.lst (.cons (.mth .join (.str "") (.cons (.var 1) .nil)) (.cons (.str "a") (.cons (.str "ab") (.cons (.str "lent") (.cons (.str "gone") (.cons (.str "moved") (.cons (.str "abc") (.cons (.str "b") .nil))))))))) (.callS "_law_digit" (.cons (.var 0) (.cons (.int 8) .nil)))) [some (.cell n), some (.d (.lst (cs.map fun c => D.str (sg1 c)))), none] st1 = .ok (.d (.str w)) st2 := by
    rw [ev_sub, l, R.bind_ok, e2, R.bind_ok, opt2_dd, hv1, okD_some]
  rw [exs_ret (ex_ret_d s2)]
  rfl
/-! ### valid calls -/
theorem find_own : ∀ (r : List D) (i : Nat) (p : Option D) (kn : List Str), badFrom i p kn r = none → ∀ d ∈ r, ∀ m ∈ namesOf d, m ∉ kn ∧ r.find? (hasN m) = some d
  | [], _, _, _, _, d, h => by cases h
  | d :: r, i, p, kn, h, x, hx => by
    simp only [badFrom] at h
    split at h
    · cases h
    · rename_i hb
      have hb : badB d p kn = false := by simpa using hb
      simp only [badB, Bool.or_eq_false_iff] at hb
      have fresh : ∀ m ∈ namesOf d, m ∉ kn := fun m hm z => by
        have := List.any_eq_false.mp hb.2.1 m hm
        exact this (List.any_eq_true.mpr ⟨m, z, by simp⟩)
      intro m hm
      rcases List.mem_cons.mp hx with rfl | hx
      · refine ⟨fresh m hm, ?_⟩
        rw [List.find?_cons]
        have : hasN m x = true := List.any_eq_true.mpr ⟨m, hm, by simp⟩
        rw [this]
      · obtain ⟨k1, k2⟩ := find_own r _ _ _ h x hx m hm
        have n1 : m ∉ kn := fun z => k1 (List.mem_append_left _ z)
        have n2 : m ∉ namesOf d := fun z => k1 (List.mem_append_right _ z)
        refine ⟨n1, ?_⟩
        rw [List.find?_cons]
        have : hasN m d = false := by
          unfold hasN
          rw [List.any_eq_false]
          exact fun y hy z => n2 (by have := eq_of_beq z; rw [← this]; exact hy)
        rw [this]; exact k2
theorem group_own {ds : List D} (h : callsX (.tup ds) = none) {d : D} (hd : d ∈ ds) {m : Str} (hm : m ∈ namesOf d) : groupV ds m = d := by
  obtain ⟨ds', e, _, _, hb⟩ := calls_valid h
  cases e
  unfold groupV
  rw [(find_own ds 0 none [] hb d hd m hm).2]; rfl
theorem name_nice {w : Str} (h : nameB (.str w) = true) : Nice 8 0 (.str w) := by
  simp only [nameB, Bool.and_eq_true, decide_eq_true_eq] at h
  refine nice_str (by omega) fun c hc => ?_
  have := List.all_eq_true.mp h.2 c hc
  have hm : c ∈ LET.cps.toList := of_decide_eq_true this
  have all : (LET.cps.toList.all fun c => decide (c < 16 ^ 8)) = true := by decide +kernel
  exact of_decide_eq_true (List.all_eq_true.mp all c hm)
theorem group_nice {d : D} (h : groupB d = true) : Nice 40 1 d := by
  obtain ⟨ss, rfl, _, h4, hn, _⟩ := group_strs h
  have := nice_tup (b := 8) (k := 0) (n := 4) (ds := ss.map .str) (fun x hx => by
    obtain ⟨w, hw, rfl⟩ := List.mem_map.mp hx
    exact name_nice (List.all_eq_true.mp hn _ hx)) (by simpa using h4)
  exact this.mono (by decide) (by decide)
theorem dueV_nice (o : Option (Option Nat)) (h : ∀ i, o = some (some i) → i < 1000) : Nice 10 0 (dueV o) := by
  rcases o with _ | (_ | i)
  · exact nice_non.mono (by decide) (by decide)
  · exact nice_str (by decide) (by decide +kernel)
  · refine (nice_int ?_).mono (by decide) (by decide)
    have := h i rfl
    have e : ((i : Int)).natAbs = i := by omega
    rw [e]
    exact Nat.lt_trans this (by decide)
theorem bad_lt : ∀ (r : List D) (i : Nat) (p : Option D) (kn : List Str) (k : Nat), badFrom i p kn r = some k → k < i + r.length
  | [], _, _, _, _, h => by cases h
  | d :: r, i, p, kn, k, h => by
    simp only [badFrom] at h
    split at h
    · cases h; simp
    · have := bad_lt r _ _ _ k h
      simp only [List.length_cons]; omega
theorem calls_lt {x : D} {i : Nat} (h : callsX x = some (some i)) : i < 1000 := by
  cases x with
  | tup ds =>
    simp only [callsX] at h
    split at h
    · rename_i h6
      cases q : badFrom 0 none [] ds with
      | none => rw [q] at h; cases h
      | some k =>
        rw [q] at h
        cases h
        have := bad_lt ds 0 none [] _ q
        omega
    · cases h
  | _ => cases h
end HX
set_option linter.all false
set_option maxRecDepth 100000
set_option maxHeartbeats 1000000
namespace HX
open PySem Ev
def oddR : List D := [.non, .str "A", .str "", .int 7, .bl true, .tup [.str "a"], .str "abcdefghi", .lst [.str "a"]]
theorem oddR_ok : ∀ x ∈ oddR, nameB x = false ∧ okX x = true := by
  have : (oddR.all fun x => !nameB x && okX x) = true := by kernel_rfl
  intro x hx
  have := List.all_eq_true.mp this x hx
  simp only [Bool.and_eq_true, Bool.not_eq_true'] at this
  exact this
theorem l19_due : G19.fp "_law_due" = some f__law_due := by rfl
theorem l19_is : G19.fp "is_calls" = some f_is_calls := by rfl
theorem l19_told : G19.fp "_law_told" = some f__law_told := by rfl
theorem l19_word : G19.fs "_law_word" = some f__law_word := by rfl
theorem d19 : G19.fs "_law_digit" = some (digitF G2) := by rfl
theorem m2 : G2.fp "_law_mixed" = some (mixedF G1) := by rfl
structure FrR (n : Nat) (x dv od : D) (ro : Ro) : Prop where
  l : ro.length = 7
  h0 : ro[0]? = some (some (.cell n))
  h1 : ro[1]? = some (some (.d x))
  h2 : ro[2]? = some (some (.d dv))
  h3 : ro[3]? = some (some (.d od))
theorem FrR.set {n : Nat} {x dv od : D} {ro : Ro} (f : FrR n x dv od ro) (i : Nat) (hi : 3 < i) (w : Option W) : FrR n x dv od (ro.set i w) :=
  ⟨by simp [f.l], by rw [List.getElem?_set_ne (by omega)]; exact f.h0, by rw [List.getElem?_set_ne (by omega)]; exact f.h1, by rw [List.getElem?_set_ne (by omega)]; exact f.h2, by rw [List.getElem?_set_ne (by omega)]; exact f.h3⟩
theorem inner_ok {n : Nat} {ds : List D} {dv od d : D} {st : Store} (hx : okT (.tup ds) = true) (h : callsX (.tup ds) = none) (hd : d ∈ ds) (ro : Ro) (f : FrR n (.tup ds) dv od ro) (h4 : ro[4]? = some (some (.d d))) :
    ∃ ro', exs G19 l__law_right_1 ro st = .nx ro' st ∧ FrR n (.tup ds) dv od ro' := by
  obtain ⟨_, e, _, hg, _⟩ := calls_valid h
  cases e
  have gd := hg d hd
  obtain ⟨ss, rfl, _, s4, hn, _⟩ := group_strs gd
  have ei : evi G19 (.it (.var 4)) ro st = .ok (ss.map .str) st := by rw [evi_it, ev_var h4, R.bind_ok, keepD_d, R.bind_ok]; rfl
  obtain ⟨ro', st', k1, ⟨k2, k3⟩, rfl⟩ := forRun_all (b := exs G19 l__law_right_0) (t := .nm 5) (J := fun _ ro s => (FrR n (.tup ds) dv od ro ∧ ro[4]? = some (some (.d (.tup (ss.map .str))))) ∧ s = st) (ss.map .str) 0 ro st
    (fun i y hy r s ⟨⟨fr, q4⟩, es⟩ => by
      subst es
      have hm : y ∈ ss.map D.str := List.mem_of_getElem? hy
      obtain ⟨m, hm', rfl⟩ := List.mem_map.mp hm
      have nm := List.all_eq_true.mp hn _ hm
      have go := group_own h hd (m := m) (by rw [namesOf_strs]; exact hm')
      have fr2 := fr.set 5 (by decide) (some (.d (.str m)))
      have v5 : (r.set 5 (some (W.d (.str m))))[5]? = some (some (.d (.str m))) := by rw [List.getElem?_set_self (by rw [fr.l]; decide)]
      have v4 : (r.set 5 (some (W.d (.str m))))[4]? = some (some (.d (.tup (ss.map .str)))) := by rw [List.getElem?_set_ne (by decide)]; exact q4
      have t := told1_good ds m hx h nm
      rw [go] at t
      have c := ev_reprNe (G := G19) (ro := r.set 5 (some (W.d (.str m)))) (st := s) (ev_callP3 l19_told (ev_int 1) (ev_var fr2.h1) (ev_var v5) t) (ev_var v4) ((group_nice gd).mono (by decide) (by decide))
      refine ⟨r.set 5 (some (.d (.str m))), r.set 5 (some (.d (.str m))), s, by simp [asgT, fr.l], .inl ?_, ⟨fr2, v4⟩, rfl⟩
      unfold l__law_right_0
      rw [exs_cons, ex_iff_b c, if_neg (by decide), exs_nil, O.then_nx, exs_nil]) ⟨⟨f, h4⟩, rfl⟩
  refine ⟨ro', ?_, k2⟩
  unfold l__law_right_1
  rw [exs_cons, ex_for, ei, R.o_ok, k1, O.then_nx, exs_nil]
theorem right_ok {x : D} (hx : okT x = true) {st : Store} {n : Nat} {T : Int} (hw : Drw st n T) (hT : T < 2 ^ 38) : ∃ st', f__law_right [.cell n, .d x] st = .ok (.d (.bl true)) st' ∧ Drw st' n (T + 300) ∧ Oth n st st' := by
  have due := ldue x hx
  have nice : Nice 10 0 (dueV (callsX x)) := dueV_nice _ fun i e => calls_lt e
  unfold f__law_right runS b__law_right
  rw [if_pos (by rfl)]
  have i0 : ini 7 [.cell n, .d x] = [some (.cell n), some (.d x), none, none, none, none, none] := rfl
  rw [i0]
  have s1 : ex G19 (.set 2 (.callP "_law_due" (.cons (.var 1) .nil))) [some (.cell n), some (.d x), none, none, none, none, none] st = .nx [some (.cell n), some (.d x), some (.d (dueV (callsX x))), none, none, none, none] st :=
    ex_set_d (ev_callP1 l19_due (ev_var rfl) due) (show 2 < 7 by decide)
  rw [exs_nx s1]
  have non : (callsX x).isNone = (dueV (callsX x)).isNon := by rcases callsX x with _ | (_ | _) <;> rfl
  have c1 := ev_reprNe (G := G19) (ro := [some (.cell n), some (.d x), some (.d (dueV (callsX x))), none, none, none, none]) (st := st) (a := .callP "is_calls" (.cons (.var 1) .nil)) (b := .cmp .Is (.var 2) .non) (x := .bl (callsX x).isNone) (ev_callP1 l19_is (ev_var rfl) (pis x hx)) (by rw [non]; exact ev_cmp_d (ev_var rfl) ev_non (cmp_is _)) ((nice_bl _).mono (by decide) (by decide))
  have c2 := ev_reprNe (G := G19) (ro := [some (.cell n), some (.d x), some (.d (dueV (callsX x))), none, none, none, none]) (st := st) (a := .callP "_law_told" (.cons (.int 0) (.cons (.var 1) (.cons (.str "a") .nil)))) (b := .var 2) (ev_callP3 l19_told (ev_int 0) (ev_var rfl) (ev_str _) (told0 x _ hx)) (ev_var rfl) (nice.mono (by decide) (by decide))
  rw [exs_cons, ex_iff_b (ev_or_b c1 fun _ => c2), if_neg (by decide), exs_nil, O.then_nx]
  obtain ⟨k, st1, e1, k0, k1, w1, o1⟩ := ev_digit (G := G19) (ro := [some (.cell n), some (.d x), some (.d (dueV (callsX x))), none, none, none, none]) (st := st) (i := 0) (m := .int 8) (many := 8) d19 m2 rfl (ev_int 8) hw (by decide) (by omega)
  obtain ⟨od, ho1, _, ho3⟩ := ix_mem (ds := oddR) k0 k1
  obtain ⟨on, ox⟩ := oddR_ok od ho3
  have lo : ev G19 (.lst (.cons .non (.cons (.str "A") (.cons (.str "") (.cons (.int 7) (.cons (.bl true) (.cons (.tup (.cons (.str "a") .nil)) (.cons (.str "abcdefghi") (.cons (.lst (.cons (.str "a") .nil)) .nil))))))))) [some (.cell n), some (.d x), some (.d (dueV (callsX x))), none, none, none, none] st = .ok (.d (.lst oddR)) st :=
    ev_lst_d (ds := oddR) (evs_d ev_non (evs_d (ev_str _) (evs_d (ev_str _) (evs_d (ev_int _) (evs_d (ev_bl _) (evs_d (by simp [ev_tup, evs_cons, evs_nil, ev_str]) (evs_d (ev_str _) (evs_d (ev_lst_d (ds := [.str "a"]) (evs_d (ev_str _) evs_0) (by decide)) evs_0)))))))) (by decide)
  have s3 : ex G19 (.set 3 (.sub (.lst (.cons .non (.cons (.str "A") (.cons (.str "") (.cons (.int 7) (.cons (.bl true) (.cons (.tup (.cons (.str "a") .nil)) (.cons (.str "abcdefghi") (.cons (.lst (.cons (.str "a") .nil)) .nil))))))))) (.callS "_law_digit" (.cons (.var 0) (.cons (.int 8) .nil))))) [some (.cell n), some (.d x), some (.d (dueV (callsX x))), none, none, none, none] st = .nx [some (.cell n), some (.d x), some (.d (dueV (callsX x))), some (.d od), none, none, none] st1 :=
    ex_set_d (by rw [ev_sub, lo, R.bind_ok, e1, R.bind_ok, opt2_dd, ho1, okD_some]) (show 3 < 7 by decide)
  rw [exs_nx s3]
  obtain ⟨ro, hro⟩ : ∃ ro, ro = [some (W.cell n), some (.d x), some (.d (dueV (callsX x))), some (.d od), none, none, none] := ⟨_, rfl⟩
  have fr : FrR n x (dueV (callsX x)) od ro := by rw [hro]; exact ⟨rfl, rfl, rfl, rfl, rfl⟩
  rw [← hro]
  clear hro
  have cn : ev G19 (.cmp .IsNot (.var 2) .non) ro st1 = .ok (.d (.bl (!(dueV (callsX x)).isNon))) st1 := ev_cmp_d (ev_var fr.h2) ev_non (cmp_isnot _)
  rw [exs_cons, ex_iff_b cn]
  cases hc : callsX x with
  | some o =>
    have e0 : (!(dueV (some o)).isNon) = true := by rcases o with _ | _ <;> rfl
    rw [e0, if_pos rfl]
    rw [hc] at fr nice
    have t := fun w => told1_bad x w o hx hc
    simp only [hc] at t
    have q1 : ev G19 (.cmp .Eq (.callP "_law_told" (.cons (.int 1) (.cons (.var 1) (.cons (.str "a") .nil)))) (.var 2)) ro st1 = .ok (.d (.bl true)) st1 := ev_eqSelf (ev_callP3 l19_told (ev_int 1) (ev_var fr.h1) (ev_str _) (t _)) (ev_var fr.h2) nice.nod (by rcases o with _ | _ <;> exact Nat.zero_le _)
    have q2 : ev G19 (.cmp .Eq (.callP "_law_told" (.cons (.int 1) (.cons (.var 1) (.cons (.var 3) .nil)))) (.var 2)) ro st1 = .ok (.d (.bl true)) st1 := ev_eqSelf (ev_callP3 l19_told (ev_int 1) (ev_var fr.h1) (ev_var fr.h3) (t _)) (ev_var fr.h2) nice.nod (by rcases o with _ | _ <;> exact Nat.zero_le _)
    refine ⟨st1, ?_, w1.up (by omega), o1⟩
    rw [exs_ret (ex_ret_d (ev_and_b q1 fun _ => q2)), then_ret]
    rfl
  | none =>
    obtain ⟨ds, rfl, h6, hg, _⟩ := calls_valid hc
    rw [show (!(dueV none).isNon) = false from rfl, if_neg (by decide), exs_nil, O.then_nx]
    have ei : evi G19 (.it (.var 1)) ro st1 = .ok ds st1 := by rw [evi_it, ev_var fr.h1, R.bind_ok, keepD_d, R.bind_ok]; rfl
    obtain ⟨ro2, st2, k1, k2, rfl⟩ := forRun_all (b := exs G19 l__law_right_1) (t := .nm 4) (J := fun _ ro s => FrR n (.tup ds) (dueV (callsX (.tup ds))) od ro ∧ s = st1) ds 0 ro st1
      (fun i y hy r s ⟨f, es⟩ => by
        subst es
        have f2 := f.set 4 (by decide) (some (.d y))
        obtain ⟨r', a1, a2⟩ := inner_ok (st := s) hx hc (List.mem_of_getElem? hy) (r.set 4 (some (.d y))) f2 (by rw [List.getElem?_set_self (by rw [f.l]; decide)])
        exact ⟨r.set 4 (some (.d y)), r', s, by simp [asgT, f.l], .inl a1, a2, rfl⟩) ⟨fr, rfl⟩
    rw [exs_nx (ro1 := ro2) (st1 := st2) (by rw [ex_for, ei, R.o_ok, k1])]
    obtain ⟨w, st3, e3, hn, w3, o3⟩ := word_ok w1 (by omega)
    have s6 : ex G19 (.set 6 (.callS "_law_word" (.cons (.var 0) .nil))) ro2 st2 = .nx (ro2.set 6 (some (.d (.str w)))) st3 :=
      ex_set_d (by simp only [ev_callS l19_word, evs_cons, evs_nil, ev_var k2.h0, R.bind_ok]; exact e3) (by rw [k2.l]; decide)
    rw [exs_nx s6]
    have f6 := k2.set 6 (by decide) (some (.d (.str w)))
    have v6 : (ro2.set 6 (some (W.d (.str w))))[6]? = some (some (.d (.str w))) := by rw [List.getElem?_set_self (by rw [k2.l]; decide)]
    obtain ⟨r6, hr6⟩ : ∃ r, r = ro2.set 6 (some (W.d (.str w))) := ⟨_, rfl⟩
    rw [← hr6] at f6 v6 ⊢
    have lf : ev G19 (.lc [4] (.nm 4) (.it (.var 1)) (.cmp .In (.var 6) (.var 4)) (.var 4)) r6 st3 = .ok (.d (.lst (ds.filter (hasN w)))) st3 := by
      have := ev_lc (G := G19) (own := [4]) (t := .nm 4) (it := .it (.var 1)) (c := .cmp .In (.var 6) (.var 4)) (e := .var 4) (ro := r6) (st := st3) ds (hasN w) (fun d => d) (by rw [evi_it, ev_var f6.h1, R.bind_ok, keepD_d, R.bind_ok]; rfl) (by omega) fun y hm =>
        ⟨(wipeW r6 [4]).set 4 (some (.d y)), by simp [asgT, wipeW, f6.l], ev_cmp_d (x := .str w) (y := y) (ev_var (by have := (List.getElem?_eq_some_iff.mp v6).2; simpa [wipeW, f6.l] using this)) (ev_var (by simp [wipeW, f6.l])) (in_group (hg y hm) w), fun _ => ev_var (by simp [wipeW, f6.l])⟩
      rw [List.map_id'] at this
      exact this
    have ceq := ev_cmp_d (op := .Eq) lf ev_lst0 (eq_nilD _)
    have told := told1_good ds w hx hc hn
    have ct := ev_callP3 (G := G19) (ro := r6) (st := st3) l19_told (ev_int 1) (ev_var f6.h1) (ev_var v6) told
    have tp : ev G19 (.tup (.cons (.var 6) .nil)) r6 st3 = .ok (.d (.tup [.str w])) st3 := by simp [ev_tup, evs_cons, evs_nil, ev_var v6]
    have cand : ∃ b, ev G19 (.and2 (.cmp .Eq (.lc [4] (.nm 4) (.it (.var 1)) (.cmp .In (.var 6) (.var 4)) (.var 4)) (.lst .nil)) (.cmp .NotEq (.callP "_law_told" (.cons (.int 1) (.cons (.var 1) (.cons (.var 6) .nil)))) (.tup (.cons (.var 6) .nil)))) r6 st3 = .ok (.d (.bl b)) st3 ∧ b = false := by
      cases hem : (ds.filter (hasN w)).isEmpty with
      | false =>
        rw [hem] at ceq
        exact ⟨_, ev_and_b (q := false) ceq (fun z => by cases z), rfl⟩
      | true =>
        rw [hem] at ceq
        have hfe : ds.filter (hasN w) = [] := List.isEmpty_iff.mp hem
        have : ds.find? (hasN w) = none := by
          rw [List.find?_eq_none]
          exact fun y hy z => by
            have := List.filter_eq_nil_iff.mp hfe y hy
            exact this z
        have gv : groupV ds w = .tup [.str w] := by unfold groupV; rw [this]; rfl
        rw [gv] at ct
        exact ⟨_, ev_and_b ceq (fun _ => ev_neSelf ct tp (by rfl) (Nat.le_of_ble_eq_true rfl)), rfl⟩
    obtain ⟨b, cb, rfl⟩ := cand
    rw [exs_cons, ex_iff_b cb, if_neg (by decide), exs_nil, O.then_nx]
    have fin : ev G19 (.cmp .Eq (.callP "_law_told" (.cons (.int 1) (.cons (.var 1) (.cons (.var 3) .nil)))) (.lst (.cons (.str "place") .nil))) r6 st3 = .ok (.d (.bl true)) st3 :=
      ev_eqSelf (x := .lst [.str "place"]) (ev_callP3 l19_told (ev_int 1) (ev_var f6.h1) (ev_var f6.h3) (told1_odd _ od hx ox hc on)) (ev_lst_d (ds := [.str "place"]) (evs_d (ev_str _) evs_0) (by decide)) (by rfl) (by decide)
    refine ⟨st3, ?_, w3.up (by omega), o1.trans o3⟩
    rw [exs_ret (ex_ret_d fin)]
    rfl
end HX
set_option linter.all false
set_option maxRecDepth 100000
set_option maxHeartbeats 1000000
namespace HX
open PySem Ev
theorem d4 : G4.fs "_law_digit" = some (digitF G2) := by rfl
theorem w4 : G4.fs "_law_word" = some f__law_word := by rfl
structure J1 (n a : Nat) (many : Int) (T : Int) (i : Nat) (ro : Ro) (st : Store) : Prop where
  l : ro.length = 8
  h0 : ro[0]? = some (some (.cell n))
  h1 : ro[1]? = some (some (.d (.int many)))
  h2 : ro[2]? = some (some (.cell a))
  h3 : ro[3]? = some (some (.cell (a + 1)))
  na : n < a
  len : st.length = a + 2
  dr : Drw st n (T + 300 * i)
  ns : ∃ ns : List Str, st[a]? = some (.lst (ns.map .str)) ∧ ns.Nodup ∧ (∀ x ∈ ns, nameB (.str x) = true) ∧ ns.length ≤ i
  gs : st[a + 1]? = some (.lst [])
theorem turn1 {n a : Nat} {many T : Int} {i : Nat} {ro : Ro} {st : Store} {x : D} (j : J1 n a many T i ro st) (hi : i < 1000) (hT : T < 2 ^ 37) : ∃ ro1 ro2 st2, asgT (.nm 4) x ro = some ro1 ∧ (exs G4 l__law_calls_1 ro1 st = .nx ro2 st2 ∨ exs G4 l__law_calls_1 ro1 st = .cnt ro2 st2) ∧ J1 n a many T (i + 1) ro2 st2 := by
  have f : ∀ k, k < 4 → (ro.set 4 (some (W.d x)))[k]? = ro[k]? := fun k hk => List.getElem?_set_ne (by omega)
  obtain ⟨w, st1, e1, hn, w1, o1⟩ := word_ok j.dr (by omega)
  have s5 : ex G4 (.set 5 (.callS "_law_word" (.cons (.var 0) .nil))) (ro.set 4 (some (.d x))) st = .nx ((ro.set 4 (some (.d x))).set 5 (some (.d (.str w)))) st1 :=
    ex_set_d (by simp only [ev_callS w4, evs_cons, evs_nil, ev_var ((f 0 (by decide)).trans j.h0), R.bind_ok]; exact e1) (by simp [j.l])
  obtain ⟨R1, hR⟩ : ∃ r, r = (ro.set 4 (some (W.d x))).set 5 (some (W.d (.str w))) := ⟨_, rfl⟩
  rw [← hR] at s5
  have g : ∀ k, k < 4 → R1[k]? = ro[k]? := fun k hk => by rw [hR, List.getElem?_set_ne (by omega)]; exact f k hk
  have v5 : R1[5]? = some (some (.d (.str w))) := by rw [hR]; simp [j.l]
  obtain ⟨ns, q1, q2, q3, q4⟩ := j.ns
  have sa : st1[a]? = some (.lst (ns.map .str)) := (o1.2 a (by have := j.na; omega)).trans q1
  have sb : st1[a + 1]? = some (.lst []) := (o1.2 (a + 1) (by have := j.na; omega)).trans j.gs
  have l1 : st1.length = a + 2 := o1.1.trans j.len
  have c := cmp_inL (G := G4) (ro := R1) (st := st1) (k := .var 5) (a := .var 2) (w := .cell a) (xs := ns) (neg := true) (ev_var v5) (ev_var ((g 2 (by decide)).trans j.h2)) (by simp [peek, sa])
  refine ⟨ro.set 4 (some (.d x)), ?_⟩
  unfold l__law_calls_1
  cases ha : ns.any fun y => y == w with
  | true =>
    rw [ha] at c
    refine ⟨R1, st1, by simp [asgT, j.l], .inl ?_, ⟨by rw [hR]; simp [j.l], (g 0 (by decide)).trans j.h0, (g 1 (by decide)).trans j.h1, (g 2 (by decide)).trans j.h2, (g 3 (by decide)).trans j.h3, j.na, l1, w1.up (by omega), ⟨ns, sa, q2, q3, by omega⟩, sb⟩⟩
    rw [exs_nx s5, exs_cons, ex_iff_b c, if_neg (by decide), exs_nil, O.then_nx, exs_nil]
  | false =>
    rw [ha] at c
    have ap := ex_app_d (G := G4) (ro := R1) (st := st1) (a := .var 2) (m := .var 5) (ev_var ((g 2 (by decide)).trans j.h2)) sa (ev_var v5) (by simp; omega)
    have nw : w ∉ ns := fun z => by
      have := List.any_eq_false.mp ha w z
      simp at this
    refine ⟨R1, st1.set a (.lst (ns.map .str ++ [.str w])), by simp [asgT, j.l], .inl ?_, ⟨by rw [hR]; simp [j.l], (g 0 (by decide)).trans j.h0, (g 1 (by decide)).trans j.h1, (g 2 (by decide)).trans j.h2, (g 3 (by decide)).trans j.h3, j.na, by rw [List.length_set]; exact l1, ?_, ⟨ns ++ [w], ?_, ?_, ?_, by simp; omega⟩, ?_⟩⟩
    · rw [exs_nx s5, exs_cons, ex_iff_b c, if_pos (by rfl), exs_nx ap, exs_nil, O.then_nx, exs_nil]
    · exact (w1.at (List.getElem?_set_ne (by have := j.na; omega))).up (by omega)
    · rw [List.getElem?_set_self (by omega)]; simp
    · exact List.nodup_append.mpr ⟨q2, by simp, fun x hx y hy e => by rw [List.mem_singleton.mp hy] at e; exact nw (e ▸ hx)⟩
    · intro y hy
      rcases List.mem_append.mp hy with z | z
      · exact q3 y z
      · rw [List.mem_singleton.mp z]; exact hn
    · rw [List.getElem?_set_ne (by omega)]; exact sb
structure J2 (n a : Nat) (T : Int) (i : Nat) (ro : Ro) (st : Store) : Prop where
  l : ro.length = 8
  h0 : ro[0]? = some (some (.cell n))
  h3 : ro[3]? = some (some (.cell (a + 1)))
  na : n < a
  len : st.length = a + 2
  dr : Drw st n (T + 300 * i)
  gs : ∃ (gs : List (List Str)) (rest : List Str), st[a + 1]? = some (.lst (gs.map tupS)) ∧ (∀ g ∈ gs, GoodG g) ∧ gs.length ≤ i ∧ (gs.flatten ++ rest).Nodup ∧ (∀ x ∈ rest, nameB (.str x) = true) ∧ rest.length ≤ 1000 ∧
    (ro[2]? = some (some (.d (.lst (rest.map .str)))) ∨ (ro[2]? = some (some (.cell a)) ∧ st[a]? = some (.lst (rest.map .str))))
theorem turn2 {n a : Nat} {T : Int} {i : Nat} {ro : Ro} {st : Store} {x : D} (j : J2 n a T i ro st) (hi : i < 1000) (hT : T < 2 ^ 37) : ∃ ro1 ro2 st2, asgT (.nm 4) x ro = some ro1 ∧ (exs G4 l__law_calls_0 ro1 st = .nx ro2 st2 ∨ exs G4 l__law_calls_0 ro1 st = .cnt ro2 st2) ∧ J2 n a T (i + 1) ro2 st2 := by
  have f : ∀ k, k < 4 → (ro.set 4 (some (W.d x)))[k]? = ro[k]? := fun k hk => List.getElem?_set_ne (by omega)
  obtain ⟨d, st1, e1, d0, d1, w1, o1⟩ := ev_digit (G := G4) (ro := ro.set 4 (some (W.d x))) (st := st) (i := 0) (m := .int 3) (many := 3) d4 m2 ((f 0 (by decide)).trans j.h0) (ev_int 3) j.dr (by decide) (by omega)
  obtain ⟨s, hs⟩ : ∃ s : Nat, 2 + d = (s : Int) := ⟨(2 + d).toNat, by omega⟩
  have s6 : ex G4 (.set 6 (.bin .Add (.int 2) (.callS "_law_digit" (.cons (.var 0) (.cons (.int 3) .nil))))) (ro.set 4 (some (.d x))) st = .nx ((ro.set 4 (some (.d x))).set 6 (some (.d (.int (s : Int))))) st1 :=
    ex_set_d (by rw [ev_bin, ev_int, R.bind_ok, e1, R.bind_ok, opt2_dd]; show Ev.R.ok (W.d (D.int (2 + d))) st1 = _; rw [hs]) (by simp [j.l])
  obtain ⟨R1, hR⟩ : ∃ r, r = (ro.set 4 (some (W.d x))).set 6 (some (W.d (.int (s : Int)))) := ⟨_, rfl⟩
  rw [← hR] at s6
  have g : ∀ k, k < 4 → R1[k]? = ro[k]? := fun k hk => by rw [hR, List.getElem?_set_ne (by omega)]; exact f k hk
  have v6 : R1[6]? = some (some (.d (.int (s : Int)))) := by rw [hR]; simp [j.l]
  have lR : R1.length = 8 := by rw [hR]; simp [j.l]
  obtain ⟨gs, rest, q1, q2, q3, q4, q5, q6, q7⟩ := j.gs
  have sb : st1[a + 1]? = some (.lst (gs.map tupS)) := (o1.2 (a + 1) (by have := j.na; omega)).trans q1
  have l1 : st1.length = a + 2 := o1.1.trans j.len
  obtain ⟨wv, hv, hpk⟩ : ∃ wv, R1[2]? = some (some wv) ∧ peek st1 wv = some (.lst (rest.map .str)) := by
    rcases q7 with h | ⟨h, h'⟩
    · exact ⟨_, (g 2 (by decide)).trans h, by rw [peek_d]⟩
    · have : st1[a]? = some (.lst (rest.map .str)) := (o1.2 a (by have := j.na; omega)).trans h'
      exact ⟨_, (g 2 (by decide)).trans h, by simp [peek, this]⟩
  have p1 := ev_slcLl (G := G4) (ro := R1) (st := st1) (a := .var 2) (b := .var 6) rfl (ev_var hv) hpk (ev_var v6)
  have p2 := ev_slcRl (G := G4) (ro := R1) (st := st1) (a := .var 2) (b := .var 6) rfl (ev_var hv) hpk (ev_var v6)
  rw [cutG_take, ← List.map_take] at p1
  rw [cutG_drop, ← List.map_drop] at p2
  have sp := ex_par_d (G := G4) (i := 7) (j := 2) p1 p2 (by rw [lR]; decide)
  obtain ⟨R2, hR2⟩ : ∃ r, r = (R1.set 7 (some (W.d (.lst ((rest.take s).map .str))))).set 2 (some (W.d (.lst ((rest.drop s).map .str)))) := ⟨_, rfl⟩
  rw [← hR2] at sp
  have l2 : R2.length = 8 := by rw [hR2]; simp [lR]
  have k0 : R2[0]? = some (some (.cell n)) := by rw [hR2]; simp [g, j.h0]
  have k3 : R2[3]? = some (some (.cell (a + 1))) := by rw [hR2]; simp [g, j.h3]
  have k2 : R2[2]? = some (some (.d (.lst ((rest.drop s).map .str)))) := by rw [hR2]; simp [lR]
  have k7 : R2[7]? = some (some (.d (.lst ((rest.take s).map .str)))) := by rw [hR2]; simp [lR]
  have nrest : (rest.take s ++ rest.drop s) = rest := List.take_append_drop s rest
  have nd1 : rest.Nodup := (List.nodup_append.mp q4).2.1
  have c : ev G4 (.cmp .Gt (.bi .len (.cons (.var 7) .nil)) (.int 1)) R2 st1 = .ok (.d (.bl (decide ((1 : Int) < ((rest.take s).map D.str).length)))) st1 := ev_cmp_d (ev_bi1 (ev_var k7) (by rfl)) (ev_int 1) (cmp_gt _ _)
  refine ⟨ro.set 4 (some (.d x)), ?_⟩
  unfold l__law_calls_0
  by_cases h2 : (1 : Int) < ((rest.take s).map D.str).length
  · rw [decide_eq_true h2] at c
    have h2' : 2 ≤ (rest.take s).length := by rw [List.length_map] at h2; omega
    have h4' : (rest.take s).length ≤ 4 := by rw [List.length_take]; omega
    have ndt : (rest.take s).Nodup := by
      have := nd1; rw [← nrest] at this; exact (List.nodup_append.mp this).1
    have gg := sort_good h2' h4' ndt fun y hy => q5 y (List.mem_of_mem_take hy)
    have sv : ev G4 (.bi .tuple (.cons (.bi .sorted (.cons (.var 7) .nil)) .nil)) R2 st1 = .ok (.d (tupS (sortT (rest.take s)))) st1 := ev_bi1 (ev_bi1 (ev_var k7) (sorted_strs _ (by omega))) (by rfl)
    have ap := ex_app_d (G := G4) (ro := R2) (st := st1) (a := .var 3) (ev_var k3) sb sv (by simp; omega)
    refine ⟨R2, st1.set (a + 1) (.lst (gs.map tupS ++ [tupS (sortT (rest.take s))])), by simp [asgT, j.l], .inl ?_, ⟨l2, k0, k3, j.na, by rw [List.length_set]; exact l1, ?_, gs ++ [sortT (rest.take s)], rest.drop s, ?_, ?_, by simp; omega, ?_, fun y hy => q5 y (List.mem_of_mem_drop hy), by rw [List.length_drop]; omega, .inl k2⟩⟩
    · rw [exs_nx s6, exs_nx sp, exs_cons, ex_iff_b c, if_pos (by rfl), exs_nx ap, exs_nil, O.then_nx, exs_nil]
    · exact (w1.at (List.getElem?_set_ne (by have := j.na; omega))).up (by omega)
    · rw [List.getElem?_set_self (by omega)]; simp
    · intro y hy
      rcases List.mem_append.mp hy with z | z
      · exact q2 y z
      · rw [List.mem_singleton.mp z]; exact gg
    · have pm : ((gs ++ [sortT (rest.take s)]).flatten ++ rest.drop s).Perm (gs.flatten ++ rest) := by
        rw [List.flatten_append, List.flatten_cons, List.flatten_nil, List.append_nil, List.append_assoc]
        refine List.Perm.append_left _ ?_
        conv => rhs; rw [← nrest]
        exact List.Perm.append_right _ (List.mergeSort_perm _ _)
      exact pm.nodup_iff.mpr q4
  · rw [decide_eq_false h2] at c
    refine ⟨R2, st1, by simp [asgT, j.l], .inl ?_, ⟨l2, k0, k3, j.na, l1, w1.up (by omega), gs, rest.drop s, sb, q2, by omega, ?_, fun y hy => q5 y (List.mem_of_mem_drop hy), by rw [List.length_drop]; omega, .inl k2⟩⟩
    · rw [exs_nx s6, exs_nx sp, exs_cons, ex_iff_b c, if_neg (by decide), exs_nil, O.then_nx, exs_nil]
    · have sl : (gs.flatten ++ rest.drop s).Sublist (gs.flatten ++ rest) := List.Sublist.append_left (List.drop_sublist s rest) _
      exact sl.nodup q4
theorem calls_ok {st : Store} {n : Nat} {T : Int} (hw : Drw st n T) (hT : T < 2 ^ 36) : ∃ (x : D) (st' : Store), f__law_calls [.cell n] st = .ok (.d x) st' ∧ callsX x = none ∧ okT x = true ∧ Drw st' n (T + 20000) := by
  unfold f__law_calls runS b__law_calls
  rw [if_pos (by rfl)]
  have i0 : ini 8 [.cell n] = [some (.cell n), none, none, none, none, none, none, none] := rfl
  rw [i0]
  obtain ⟨d, st1, e1, d0, d1, w1, o1⟩ := ev_digit (G := G4) (ro := [some (.cell n), none, none, none, none, none, none, none]) (st := st) (i := 0) (m := .int 7) (many := 7) d4 m2 rfl (ev_int 7) hw (by decide) (by omega)
  rw [exs_nx (ex_set_d e1 (show 1 < 8 by decide))]
  have nl := w1.lt
  have sp : ex G4 (.par 2 3 .nlst .nlst) [some (.cell n), some (.d (.int d)), none, none, none, none, none, none] st1 = .nx [some (.cell n), some (.d (.int d)), some (.cell st1.length), some (.cell (st1.length + 1)), none, none, none, none] (st1 ++ [.lst []] ++ [.lst []]) := by
    simp [ex, ev]
  show ∃ (x : D) (st' : Store), outS (exs G4 _ [some (.cell n), some (.d (.int d)), none, none, none, none, none, none] st1) = _ ∧ _
  rw [exs_nx sp]
  have j0 : J1 n st1.length d (T + 4) 0 [some (.cell n), some (.d (.int d)), some (.cell st1.length), some (.cell (st1.length + 1)), none, none, none, none] (st1 ++ [.lst []] ++ [.lst []]) :=
    ⟨rfl, rfl, rfl, rfl, rfl, nl, by simp, by
      have : (st1 ++ [Cell.lst []] ++ [Cell.lst []])[n]? = st1[n]? := by rw [List.getElem?_append_left (by simp; omega), List.getElem?_append_left nl]
      exact (w1.at this).up (by omega), ⟨[], by simp, List.nodup_nil, fun _ h => (by cases h), by simp⟩, by simp⟩
  have er : evi G4 (.rng1 (.bin .Mult (.int 3) (.var 1))) [some (.cell n), some (.d (.int d)), some (.cell st1.length), some (.cell (st1.length + 1)), none, none, none, none] (st1 ++ [.lst []] ++ [.lst []]) = .ok (intsFrom 0 (3 * d).toNat) (st1 ++ [.lst []] ++ [.lst []]) := by
    have eb : ev G4 (.bin .Mult (.int 3) (.var 1)) [some (.cell n), some (.d (.int d)), some (.cell st1.length), some (.cell (st1.length + 1)), none, none, none, none] (st1 ++ [.lst []] ++ [.lst []]) = .ok (.d (.int (3 * d))) (st1 ++ [.lst []] ++ [.lst []]) :=
      ev_bin_d (ev_int 3) (ev_var rfl) (bin_mul _ _ (sm_of (by decide)) (sm_of ⟨by omega, by omega⟩))
    simp only [evi, eb, R.bind_ok, peek_d]
    rw [if_pos (by constructor <;> omega)]
  obtain ⟨r2, s2, f1, f2⟩ := forRun_all (b := exs G4 l__law_calls_1) (t := .nm 4) (J := J1 n st1.length d (T + 4)) (intsFrom 0 (3 * d).toNat) 0 _ _ (fun i y hy ro s jj => by
    have hi : i < (intsFrom 0 (3 * d).toNat).length := (List.getElem?_eq_some_iff.mp hy).1
    rw [intsFrom_len'] at hi
    exact turn1 jj (by omega) (by omega)) j0
  rw [intsFrom_len', Nat.zero_add] at f2
  rw [exs_nx (ro1 := r2) (st1 := s2) (by rw [ex_for, er, R.o_ok, f1])]
  obtain ⟨ns, a1, a2, a3, a4⟩ := f2.ns
  have j1 : J2 n st1.length (T + 10000) 0 r2 s2 := ⟨f2.l, f2.h0, f2.h3, f2.na, f2.len, f2.dr.up (by omega), [], ns, f2.gs, fun _ h => (by cases h), by simp, by simpa using a2, a3, by omega, .inr ⟨f2.h2, a1⟩⟩
  have er2 : evi G4 (.rng1 (.var 1)) r2 s2 = .ok (intsFrom 0 d.toNat) s2 := by
    simp only [evi, ev_var f2.h1, R.bind_ok, peek_d]
    rw [if_pos (by constructor <;> omega)]
  obtain ⟨r3, s3, g1, g2⟩ := forRun_all (b := exs G4 l__law_calls_0) (t := .nm 4) (J := J2 n st1.length (T + 10000)) (intsFrom 0 d.toNat) 0 _ _ (fun i y hy ro s jj => by
    have hi : i < (intsFrom 0 d.toNat).length := (List.getElem?_eq_some_iff.mp hy).1
    rw [intsFrom_len'] at hi
    exact turn2 jj (by omega) (by omega)) j1
  rw [intsFrom_len', Nat.zero_add] at g2
  rw [exs_nx (ro1 := r3) (st1 := s3) (by rw [ex_for, er2, R.o_ok, g1])]
  obtain ⟨gs, rest, b1, b2, b3, b4, _⟩ := g2.gs
  obtain ⟨c1, c2, c3, c4⟩ := sort_groups b2 (List.nodup_append.mp b4).1 (by omega)
  refine ⟨_, s3, ?_, c2, c3, g2.dr.up (by omega)⟩
  have sv : ev G4 (.bi .tuple (.cons (.bi .sorted (.cons (.var 3) .nil)) .nil)) r3 s3 = .ok (.d (.tup ((gs.map tupS).mergeSort leD))) s3 := ev_bi1 (ev_bi1c (ev_var g2.h3) (by simp [peek, b1]) c1) (by rfl)
  rw [exs_ret (ex_ret_d sv)]
  rfl
end HX
set_option linter.all false
set_option maxRecDepth 100000
set_option maxHeartbeats 2000000
namespace HX
open PySem Ev
theorem d5 : G5.fs "_law_digit" = some (digitF G2) := by rfl
def lenG : D → Nat
  | .tup es => es.length
  | _ => 0
structure GV (m : Nat) (g : D) : Prop where
  ok : okG g = true
  ln : lenG g ≤ m
theorem gvT {m : Nat} {es : List D} (h : ∀ e ∈ es, okX e = true) (hl : es.length ≤ m) : GV m (.tup es) := ⟨List.all_eq_true.mpr h, hl⟩
theorem GV.up {m k : Nat} {g : D} (h : GV m g) (hk : m ≤ k) : GV k g := ⟨h.ok, Nat.le_trans h.ln hk⟩
theorem okT_of {m : Nat} {ds : List D} (h : ∀ g ∈ ds, GV m g) : okT (.tup ds) = true := List.all_eq_true.mpr fun g hg => (h g hg).ok
def oddB : List D := [.non, .str "A", .str "", .str "abcdefghi", .bl true, .int 7, .tup [.str "a"], .str "a", .lst [.str "a"], .dic [] []]
theorem oddB_ok : ∀ x ∈ oddB, okX x = true := by
  have : oddB.all okX = true := by kernel_rfl
  exact List.all_eq_true.mp this
def ODDM : M := (.lst (.cons .non (.cons (.str "A") (.cons (.str "") (.cons (.str "abcdefghi") (.cons (.bl true) (.cons (.int 7) (.cons (.tup (.cons (.str "a") .nil)) (.cons (.str "a") (.cons (.lst (.cons (.str "a") .nil)) (.cons .ndic .nil)))))))))))
theorem ev_oddB {ro : Ro} {st : Store} : ∃ st', ev G5 ODDM ro st = .ok (.d (.lst oddB)) st' ∧ ∀ n, n < st.length → st'[n]? = st[n]? := by
  refine ⟨(st ++ [Cell.dic []]).set st.length (.frz (.dic [] [])), ?_, fun n hn => ?_⟩
  · simp [ODDM, ev, evs, keepAll, keepD, peek, oddB]
  · rw [List.getElem?_set_ne (by omega), List.getElem?_append_left hn]
theorem isi_tup {g : D} (h : okG g = true) : ∃ b, isiD g .tuple = some b ∧ (b = true → ∃ es, g = .tup es) := by
  cases g with
  | tup es => exact ⟨true, rfl, fun _ => ⟨es, rfl⟩⟩
  | exv _ _ _ => cases h
  | scr _ => cases h
  | _ => exact ⟨false, rfl, fun z => by cases z⟩
def Z7 : List D := (["a", "b", "c", "d", "e", "f", "g"] : List Str).map fun (s : Str) => .tup [.str ("zzz" ++ s), .str ("zzz" ++ (s ++ s))]
theorem cutT_all {p : D → Prop} {ds : List D} {lo hi : Option Int} (h : ∀ x ∈ ds, p x) : ∀ x ∈ cutG ds lo hi, p x := fun x hx => h x (cutG_mem hx)
theorem app_all {p : D → Prop} {as bs : List D} (h : ∀ x ∈ as, p x) (k : ∀ x ∈ bs, p x) : ∀ x ∈ as ++ bs, p x := fun x hx => (List.mem_append.mp hx).elim (h x) (k x)
theorem one_all {p : D → Prop} {a : D} (h : p a) : ∀ x ∈ [a], p x := fun x hx => by rw [List.mem_singleton.mp hx]; exact h
def M7a : Ms := (.cons (.bin .Add (.bin .Add (.slc (.var 5) .absent (.var 6)) (.tup (.cons (.var 4) .nil))) (.slc (.var 5) (.bin .Add (.var 6) (.int 1)) .absent)) (.cons (.bin .Add (.bin .Add (.slc (.var 5) .absent (.var 6)) (.tup (.cons (.var 4) .nil))) (.slc (.var 5) (.var 6) .absent)) (.cons (.rev (.var 5)) (.cons (.slc (.var 5) .absent (.int 1)) (.cons (.bi .list (.cons (.var 5) .nil)) .nil)))))
def M7b : Ms := (.cons (.bin .Add (.var 5) (.var 5)) (.cons .non (.cons (.str "ab") (.cons (.bin .Add (.var 5) (.tup (.cons (.str "zz") (.cons (.str "zzz") .nil)))) (.cons (.bin .Add (.slc (.var 5) .absent (.var 6)) (.slc (.var 5) (.bin .Add (.var 6) (.int 1)) .absent)) (.cons (.tup (.cons (.str "a") (.cons (.str "ab") .nil))) (.cons (.var 5) .nil)))))))
theorem ev_revT {G : Gt} {ro : Ro} {st : Store} {a : M} {ds : List D} (h : ev G a ro st = .ok (.d (.tup ds)) st) : ev G (.rev a) ro st = .ok (.d (.tup ds.reverse)) st := by
  simp only [ev, h, R.bind_ok, peek_d, Option.bind_some]; rfl
theorem list12 {ro : Ro} {st : Store} {os : List D} {od : D} {sp : Int} {m : Nat} (h5 : ro[5]? = some (some (.d (.tup os)))) (h6 : ro[6]? = some (some (.d (.int sp)))) (h4 : ro[4]? = some (some (.d od))) (ho : ∀ e ∈ os, okX e = true) (hl : os.length ≤ m) (hm : 2 ≤ m) (hm2 : m ≤ 1000) (hod : okX od = true) :
    ∃ A B : List D, ev G5 (.lst M7a) ro st = .ok (.d (.lst A)) st ∧ ev G5 (.lst M7b) ro st = .ok (.d (.lst B)) st ∧ A.length = 5 ∧ B.length = 7 ∧ (∀ g ∈ A ++ B, GV (2 * m + 2) g) := by
  have v5 : ev G5 (.var 5) ro st = .ok (.d (.tup os)) st := ev_var h5
  have v6 : ev G5 (.var 6) ro st = .ok (.d (.int sp)) st := ev_var h6
  have s1 := ev_slcL (G := G5) (b := .var 6) rfl v5 v6
  have e1 : ev G5 (.bin .Add (.var 6) (.int 1)) ro st = .ok (.d (.int (sp + 1))) st := ev_bin_d v6 (ev_int 1) (bin_add _ _)
  have s2 := ev_slcR (G := G5) (b := .bin .Add (.var 6) (.int 1)) rfl v5 e1
  have s3 := ev_slcR (G := G5) (b := .var 6) rfl v5 v6
  have s4 := ev_slcL (G := G5) (b := .int 1) rfl v5 (ev_int 1)
  have t4 : ev G5 (.tup (.cons (.var 4) .nil)) ro st = .ok (.d (.tup [od])) st := by simp [ev_tup, evs_cons, evs_nil, ev_var h4]
  have l1 := cutG_len os none (some sp)
  have l2 := cutG_len os (some (sp + 1)) none
  have l3 := cutG_len os (some sp) none
  have l4 := cutG_len os none (some 1)
  have a1 := ev_bin_d (ev_bin_d s1 t4 (bin_addT _ _ (by simp only [List.length_singleton]; omega))) s2 (bin_addT _ _ (by simp only [List.length_append, List.length_singleton]; omega))
  have a2 := ev_bin_d (ev_bin_d s1 t4 (bin_addT _ _ (by simp only [List.length_singleton]; omega))) s3 (bin_addT _ _ (by simp only [List.length_append, List.length_singleton]; omega))
  have lst5 : ev G5 (.bi .list (.cons (.var 5) .nil)) ro st = .ok (.d (.lst os)) st := ev_bi1 v5 rfl
  have b1 := ev_bin_d v5 v5 (bin_addT _ _ (by omega))
  have tz : ev G5 (.tup (.cons (.str "zz") (.cons (.str "zzz") .nil))) ro st = .ok (.d (.tup [.str "zz", .str "zzz"])) st := by simp [ev_tup, evs_cons, evs_nil, ev_str]
  have b4 := ev_bin_d v5 tz (bin_addT _ _ (by simp only [List.length_cons, List.length_nil]; omega))
  have b5 := ev_bin_d s1 s2 (bin_addT _ _ (by omega))
  have ta : ev G5 (.tup (.cons (.str "a") (.cons (.str "ab") .nil))) ro st = .ok (.d (.tup [.str "a", .str "ab"])) st := by simp [ev_tup, evs_cons, evs_nil, ev_str]
  refine ⟨_, _, ev_lst_d (evs_d a1 (evs_d a2 (evs_d (ev_revT v5) (evs_d s4 (evs_d lst5 evs_0))))) (by simp), ev_lst_d (evs_d b1 (evs_d ev_non (evs_d (ev_str _) (evs_d b4 (evs_d b5 (evs_d ta (evs_d v5 evs_0))))))) (by simp), rfl, rfl, ?_⟩
  intro g hg
  simp only [List.cons_append, List.nil_append, List.mem_cons, List.mem_nil_iff, or_false] at hg
  rcases hg with rfl | rfl | rfl | rfl | rfl | rfl | rfl | rfl | rfl | rfl | rfl | rfl
  · exact gvT (app_all (app_all (cutT_all ho) (one_all hod)) (cutT_all ho)) (by simp only [List.length_append, List.length_singleton]; omega)
  · exact gvT (app_all (app_all (cutT_all ho) (one_all hod)) (cutT_all ho)) (by simp only [List.length_append, List.length_singleton]; omega)
  · exact gvT (fun e he => ho e (List.mem_reverse.mp he)) (by rw [List.length_reverse]; omega)
  · exact gvT (cutT_all ho) (by omega)
  · exact ⟨rfl, Nat.zero_le _⟩
  · exact gvT (app_all ho ho) (by rw [List.length_append]; omega)
  · exact ⟨rfl, Nat.zero_le _⟩
  · exact ⟨by kernel_rfl, Nat.zero_le _⟩
  · exact gvT (app_all ho fun e he => by
      simp only [List.mem_cons, List.mem_nil_iff, or_false] at he
      rcases he with rfl | rfl <;> kernel_rfl) (by simp only [List.length_append, List.length_cons, List.length_nil]; omega)
  · exact gvT (app_all (cutT_all ho) (cutT_all ho)) (by rw [List.length_append]; omega)
  · exact gvT (fun e he => by
      simp only [List.mem_cons, List.mem_nil_iff, or_false] at he
      rcases he with rfl | rfl <;> kernel_rfl) (by simp only [List.length_cons, List.length_nil]; omega)
  · exact gvT ho (by omega)
end HX
set_option linter.all false
set_option maxRecDepth 100000
set_option maxHeartbeats 2000000
namespace HX
open PySem Ev
def OWNM : M := (.ite (.and2 (.cmp .Lt (.var 3) (.bi .len (.cons (.var 1) .nil))) (.isi (.sub (.var 1) (.var 3)) .tuple)) (.sub (.var 1) (.var 3)) (.tup (.cons (.str "x") (.cons (.str "y") .nil))))
theorem own_ok {ro : Ro} {st : Store} {ds : List D} {at_ : Int} {m : Nat} (h1 : ro[1]? = some (some (.d (.tup ds)))) (h3 : ro[3]? = some (some (.d (.int at_)))) (a0 : 0 ≤ at_) (hds : ∀ g ∈ ds, GV m g) (hm : 2 ≤ m) :
    ∃ os : List D, ev G5 OWNM ro st = .ok (.d (.tup os)) st ∧ (∀ e ∈ os, okX e = true) ∧ os.length ≤ m := by
  have v1 : ev G5 (.var 1) ro st = .ok (.d (.tup ds)) st := ev_var h1
  have v3 : ev G5 (.var 3) ro st = .ok (.d (.int at_)) st := ev_var h3
  have xy : ev G5 (.tup (.cons (.str "x") (.cons (.str "y") .nil))) ro st = .ok (.d (.tup [.str "x", .str "y"])) st := by simp [ev_tup, evs_cons, evs_nil, ev_str]
  have xyok : ∀ e ∈ [D.str "x", D.str "y"], okX e = true := fun e he => by
    simp only [List.mem_cons, List.mem_nil_iff, or_false] at he
    rcases he with rfl | rfl <;> kernel_rfl
  have lt := ev_cmp_d (op := .Lt) v3 (ev_bi1 v1 (len_tup ds)) (cmp_lt _ _)
  by_cases h : at_ < (ds.length : Int)
  · rw [decide_eq_true h] at lt
    obtain ⟨e, i1, i2, i3⟩ := ix_memT (ds := ds) a0 h
    have sb := ev_sub_d v1 v3 i1
    obtain ⟨b, b1, b2⟩ := isi_tup (hds e i3).ok
    have c := ev_and_b lt fun _ => ev_isi_d sb b1
    rw [Bool.true_and] at c
    cases b with
    | true =>
      obtain ⟨es, rfl⟩ := b2 rfl
      exact ⟨es, ev_ite_d (p := true) (y := .non) c (fun _ => sb) (fun z => by cases z), List.all_eq_true.mp (hds _ i3).ok, (hds _ i3).ln⟩
    | false => exact ⟨_, ev_ite_d (p := false) (x := .non) c (fun z => by cases z) (fun _ => xy), xyok, hm⟩
  · rw [decide_eq_false h] at lt
    have c := ev_and_b (b := .isi (.sub (.var 1) (.var 3)) .tuple) (q := false) lt fun z => by cases z
    exact ⟨_, ev_ite_d (p := false) (x := .non) c (fun z => by cases z) (fun _ => xy), xyok, hm⟩
def ZM : M := (.bi .tuple (.cons (.slc (.lc [9] (.nm 9) (.it (.str "abcdefg")) (.bl true) (.tup (.cons (.bin .Add (.str "zzz") (.var 9)) (.cons (.bin .Add (.str "zzz") (.bin .Mult (.var 9) (.int 2))) .nil)))) .absent (.bin .Add (.int 1) (.var 6))) .nil))
theorem z7_ok : ∀ g ∈ Z7, GV 2 g := by
  intro g hg
  have : (Z7.all fun g => okG g && decide (lenG g ≤ 2)) = true := by kernel_rfl
  have := List.all_eq_true.mp this g hg
  simp only [Bool.and_eq_true, decide_eq_true_eq] at this
  exact ⟨this.1, this.2⟩
def L6M : M := (.lst (.cons (.rev (.var 1)) (.cons (.bin .Add (.slc (.var 1) (.var 3) .absent) (.slc (.var 1) .absent (.var 3))) (.cons (.bi .list (.cons (.var 1) .nil)) (.cons (.bin .Add (.slc (.var 1) .absent (.var 3)) (.slc (.var 1) .absent (.var 3))) (.cons .ndic (.cons .non .nil)))))))
theorem l6_ok {ro : Ro} {st : Store} {ds : List D} {at_ : Int} {m : Nat} (h1 : ro[1]? = some (some (.d (.tup ds)))) (h3 : ro[3]? = some (some (.d (.int at_)))) (hds : ∀ g ∈ ds, GV m g) (hl : ds.length ≤ 1000) :
    ∃ (L : List D) (st' : Store), ev G5 L6M ro st = .ok (.d (.lst L)) st' ∧ (∀ n, n < st.length → st'[n]? = st[n]?) ∧ L.length = 6 ∧ ∀ y ∈ L, okT y = true ∧ ∀ ds', y = .tup ds' → ∀ g ∈ ds', GV m g := by
  have v1 : ∀ st, ev G5 (.var 1) ro st = .ok (.d (.tup ds)) st := fun st => ev_var h1
  have v3 : ∀ st, ev G5 (.var 3) ro st = .ok (.d (.int at_)) st := fun st => ev_var h3
  have s1 := ev_slcR (G := G5) (st := st) (b := .var 3) rfl (v1 st) (v3 st)
  have s2 := ev_slcL (G := G5) (st := st) (b := .var 3) rfl (v1 st) (v3 st)
  have l1 := cutG_len ds (some at_) none
  have l2 := cutG_len ds none (some at_)
  have a1 := ev_bin_d s1 s2 (bin_addT _ _ (by omega))
  have a2 := ev_bin_d s2 s2 (bin_addT _ _ (by omega))
  have ls : ev G5 (.bi .list (.cons (.var 1) .nil)) ro st = .ok (.d (.lst ds)) st := ev_bi1 (v1 st) rfl
  refine ⟨[.tup ds.reverse, .tup (cutG ds (some at_) none ++ cutG ds none (some at_)), .lst ds, .tup (cutG ds none (some at_) ++ cutG ds none (some at_)), .dic [] [], .non], (st ++ [Cell.dic []]).set st.length (.frz (.dic [] [])), ?_, fun n hn => by rw [List.getElem?_set_ne (by omega), List.getElem?_append_left hn], rfl, ?_⟩
  · unfold L6M
    rw [ev_lst, evs_cons, ev_revT (v1 st), R.bind_ok, evs_cons, a1, R.bind_ok, evs_cons, ls, R.bind_ok, evs_cons, a2, R.bind_ok]
    simp [ev, evs, keepAll, keepD, peek]
  · have mk : ∀ {es : List D}, (∀ g ∈ es, GV m g) → okT (.tup es) = true ∧ ∀ ds', D.tup es = .tup ds' → ∀ g ∈ ds', GV m g := fun h => ⟨okT_of h, fun ds' e => by cases e; exact h⟩
    intro y hy
    simp only [List.mem_cons, List.mem_nil_iff, or_false] at hy
    rcases hy with rfl | rfl | rfl | rfl | rfl | rfl
    · exact mk fun g hg => hds g (List.mem_reverse.mp hg)
    · exact mk (app_all (cutT_all hds) (cutT_all hds))
    · exact ⟨rfl, fun _ e => by cases e⟩
    · exact mk (app_all (cutT_all hds) (cutT_all hds))
    · exact ⟨rfl, fun _ e => by cases e⟩
    · exact ⟨rfl, fun _ e => by cases e⟩
def Pre (n : Nat) (a b : Store) : Prop := ∀ k x, k ≠ n → a[k]? = some x → b[k]? = some x
theorem Pre.trans {n : Nat} {a b c : Store} (h : Pre n a b) (k : Pre n b c) : Pre n a c := fun i x hi e => k i x hi (h i x hi e)
theorem pre_oth {n : Nat} {a b : Store} (h : Oth n a b) : Pre n a b := fun k x hk e => (h.2 k hk).trans e
theorem pre_lt {n : Nat} {a b : Store} (h : ∀ k, k < a.length → b[k]? = a[k]?) : Pre n a b := fun k x _ e => (h k (List.getElem?_eq_some_iff.mp e).1).trans e
theorem bent_ok {ds : List D} {m n : Nat} {st : Store} {T : Int} (hds : ∀ g ∈ ds, GV m g) (hl : ds.length ≤ 1000) (hm : 2 ≤ m) (hm2 : m ≤ 400) (hw : Drw st n T) (hT : T < 2 ^ 36) :
    ∃ (y : D) (st' : Store), f__law_bent [.cell n, .d (.tup ds)] st = .ok (.d y) st' ∧ okT y = true ∧ (∀ ds', y = .tup ds' → ∀ g ∈ ds', GV (2 * m + 2) g) ∧ Drw st' n (T + 100) ∧ Pre n st st' := by
  unfold f__law_bent runS b__law_bent
  rw [if_pos (by rfl)]
  have i0 : ini 10 [.cell n, .d (.tup ds)] = [some (.cell n), some (.d (.tup ds)), none, none, none, none, none, none, none, none] := rfl
  rw [i0]
  obtain ⟨way, st1, e1, y0, y1, w1, u1⟩ := ev_digit (G := G5) (ro := [some (.cell n), some (.d (.tup ds)), none, none, none, none, none, none, none, none]) (st := st) (i := 0) (m := .int 5) (many := 5) d5 m2 rfl (ev_int 5) hw (by decide) (by omega)
  obtain ⟨at_, st2, e2, a0, a1, w2, u2⟩ := ev_digit (G := G5) (ro := [some (.cell n), some (.d (.tup ds)), none, none, none, none, none, none, none, none]) (st := st1) (i := 0) (m := .bin .Add (.bi .len (.cons (.var 1) .nil)) (.int 1)) (many := (ds.length : Int) + 1) d5 m2 rfl (ev_bin_d (ev_bi1 (ev_var rfl) (len_tup ds)) (ev_int 1) (bin_add _ _)) w1 (by omega) (by omega)
  rw [exs_nx (ex_par_d e1 e2 (show 2 < 10 ∧ 3 < 10 by decide))]
  obtain ⟨st3, e3, o3⟩ := ev_oddB (ro := [some (.cell n), some (.d (.tup ds)), some (.d (.int way)), some (.d (.int at_)), none, none, none, none, none, none]) (st := st2)
  have w3 := w2.at (o3 n w2.lt)
  obtain ⟨k, st4, e4, k0, k1, w4, u4⟩ := ev_digit (G := G5) (ro := [some (.cell n), some (.d (.tup ds)), some (.d (.int way)), some (.d (.int at_)), none, none, none, none, none, none]) (st := st3) (i := 0) (m := .int 10) (many := 10) d5 m2 rfl (ev_int 10) w3 (by decide) (by omega)
  obtain ⟨od, ho1, _, ho3⟩ := ix_mem (ds := oddB) k0 k1
  have s4 : ev G5 (.sub ODDM (.callS "_law_digit" (.cons (.var 0) (.cons (.int 10) .nil)))) [some (.cell n), some (.d (.tup ds)), some (.d (.int way)), some (.d (.int at_)), none, none, none, none, none, none] st2 = .ok (.d od) st4 := by
    rw [ev_sub, e3, R.bind_ok, e4, R.bind_ok, opt2_dd, ho1, okD_some]
  unfold ODDM at s4
  show ∃ (y : D) (st' : Store), outS (exs G5 _ [some (.cell n), some (.d (.tup ds)), some (.d (.int way)), some (.d (.int at_)), none, none, none, none, none, none] st2) = _ ∧ _
  rw [exs_nx (ex_set_d s4 (show 4 < 10 by decide))]
  show ∃ (y : D) (st' : Store), outS (exs G5 _ [some (.cell n), some (.d (.tup ds)), some (.d (.int way)), some (.d (.int at_)), some (.d od), none, none, none, none, none] st4) = _ ∧ _
  obtain ⟨os, s5, os1, os2⟩ := own_ok (ro := [some (.cell n), some (.d (.tup ds)), some (.d (.int way)), some (.d (.int at_)), some (.d od), none, none, none, none, none]) (st := st4) rfl rfl a0 hds hm
  unfold OWNM at s5
  rw [exs_nx (ex_set_d s5 (show 5 < 10 by decide))]
  show ∃ (y : D) (st' : Store), outS (exs G5 _ [some (.cell n), some (.d (.tup ds)), some (.d (.int way)), some (.d (.int at_)), some (.d od), some (.d (.tup os)), none, none, none, none] st4) = _ ∧ _
  obtain ⟨sp, st5, e5, p0, p1, w5, u5⟩ := ev_digit (G := G5) (ro := [some (.cell n), some (.d (.tup ds)), some (.d (.int way)), some (.d (.int at_)), some (.d od), some (.d (.tup os)), none, none, none, none]) (st := st4) (i := 0) (m := .bin .Add (.bi .len (.cons (.var 5) .nil)) (.int 1)) (many := (os.length : Int) + 1) d5 m2 rfl (ev_bin_d (ev_bi1 (ev_var rfl) (len_tup os)) (ev_int 1) (bin_add _ _)) w4 (by omega) (by omega)
  rw [exs_nx (ex_set_d e5 (show 6 < 10 by decide))]
  show ∃ (y : D) (st' : Store), outS (exs G5 _ [some (.cell n), some (.d (.tup ds)), some (.d (.int way)), some (.d (.int at_)), some (.d od), some (.d (.tup os)), some (.d (.int sp)), none, none, none] st5) = _ ∧ _
  obtain ⟨A, B, m1, _, lA, lB, gA⟩ := list12 (ro := [some (.cell n), some (.d (.tup ds)), some (.d (.int way)), some (.d (.int at_)), some (.d od), some (.d (.tup os)), some (.d (.int sp)), none, none, none]) (st := st5) rfl rfl rfl os1 os2 hm (by omega) (oddB_ok od ho3)
  obtain ⟨A2, B2, n1, n2, lA2, lB2, gAB⟩ := list12 (ro := [some (.cell n), some (.d (.tup ds)), some (.d (.int way)), some (.d (.int at_)), some (.d od), some (.d (.tup os)), some (.d (.int sp)), some (.d (.lst A)), none, none]) (st := st5) rfl rfl rfl os1 os2 hm (by omega) (oddB_ok od ho3)
  unfold M7a at m1
  unfold M7b at n2
  rw [exs_nx (ex_set_d m1 (show 7 < 10 by decide))]
  show ∃ (y : D) (st' : Store), outS (exs G5 _ [some (.cell n), some (.d (.tup ds)), some (.d (.int way)), some (.d (.int at_)), some (.d od), some (.d (.tup os)), some (.d (.int sp)), some (.d (.lst A)), none, none] st5) = _ ∧ _
  have s7 := ev_bin_d (op := .Add) (a := .var 7) (ev_var (G := G5) (ro := [some (.cell n), some (.d (.tup ds)), some (.d (.int way)), some (.d (.int at_)), some (.d od), some (.d (.tup os)), some (.d (.int sp)), some (.d (.lst A)), none, none]) (i := 7) rfl) n2 (bin_addL _ _ (by omega))
  rw [exs_nx (ex_set_d s7 (show 7 < 10 by decide))]
  show ∃ (y : D) (st' : Store), outS (exs G5 _ [some (.cell n), some (.d (.tup ds)), some (.d (.int way)), some (.d (.int at_)), some (.d od), some (.d (.tup os)), some (.d (.int sp)), some (.d (.lst (A ++ B2))), none, none] st5) = _ ∧ _
  obtain ⟨q, st6, e6, q0, q1, w6, u6⟩ := ev_digit (G := G5) (ro := [some (.cell n), some (.d (.tup ds)), some (.d (.int way)), some (.d (.int at_)), some (.d od), some (.d (.tup os)), some (.d (.int sp)), some (.d (.lst (A ++ B2))), none, none]) (st := st5) (i := 0) (m := .int 12) (many := 12) d5 m2 rfl (ev_int 12) w5 (by decide) (by omega)
  obtain ⟨fr, hf1, _, hf3⟩ := ix_mem (ds := A ++ B2) q0 (by rw [List.length_append]; omega)
  have gf : GV (2 * m + 2) fr := (List.mem_append.mp hf3).elim (fun h => gA fr (List.mem_append_left _ h)) fun h => gAB fr (List.mem_append_right _ h)
  have s8 : ev G5 (.sub (.var 7) (.callS "_law_digit" (.cons (.var 0) (.cons (.int 12) .nil)))) [some (.cell n), some (.d (.tup ds)), some (.d (.int way)), some (.d (.int at_)), some (.d od), some (.d (.tup os)), some (.d (.int sp)), some (.d (.lst (A ++ B2))), none, none] st5 = .ok (.d fr) st6 := by
    rw [ev_sub, ev_var (by rfl), R.bind_ok, e6, R.bind_ok, opt2_dd, hf1, okD_some]
  rw [exs_nx (ex_set_d s8 (show 8 < 10 by decide))]
  show ∃ (y : D) (st' : Store), outS (exs G5 _ [some (.cell n), some (.d (.tup ds)), some (.d (.int way)), some (.d (.int at_)), some (.d od), some (.d (.tup os)), some (.d (.int sp)), some (.d (.lst (A ++ B2))), some (.d fr), none] st6) = _ ∧ _
  obtain ⟨Z, hZ⟩ : ∃ Z : Ro, Z = [some (.cell n), some (.d (.tup ds)), some (.d (.int way)), some (.d (.int at_)), some (.d od), some (.d (.tup os)), some (.d (.int sp)), some (.d (.lst (A ++ B2))), some (.d fr), none] := ⟨_, rfl⟩
  have z0 : Z[0]? = some (some (.cell n)) := by rw [hZ]; rfl
  have z1 : Z[1]? = some (some (.d (.tup ds))) := by rw [hZ]; rfl
  have z2 : Z[2]? = some (some (.d (.int way))) := by rw [hZ]; rfl
  have z3 : Z[3]? = some (some (.d (.int at_))) := by rw [hZ]; rfl
  have z6 : Z[6]? = some (some (.d (.int sp))) := by rw [hZ]; rfl
  have z8 : Z[8]? = some (some (.d fr)) := by rw [hZ]; rfl
  have zl : Z.length = 10 := by rw [hZ]; rfl
  rw [← hZ]
  have pr : Pre n st st6 := (pre_oth u1).trans ((pre_oth u2).trans ((pre_lt o3).trans ((pre_oth u4).trans ((pre_oth u5).trans (pre_oth u6)))))
  have up : ∀ g ∈ ds, GV (2 * m + 2) g := fun g hg => (hds g hg).up (by omega)
  have mk : ∀ {es : List D}, (∀ g ∈ es, GV (2 * m + 2) g) → okT (.tup es) = true ∧ ∀ ds', D.tup es = .tup ds' → ∀ g ∈ ds', GV (2 * m + 2) g := fun h => ⟨okT_of h, fun ds' e => by cases e; exact h⟩
  have c0 : ev G5 (.cmp .Eq (.var 2) (.int 0)) Z st6 = .ok (.d (.bl (way == 0))) st6 := ev_cmp_d (ev_var z2) (ev_int 0) (cmp_eqI _ _)
  rw [exs_cons, ex_iff_b c0]
  by_cases hy0 : way = 0
  · rw [if_pos (by simpa using hy0)]
    have zz : ev G5 (.lc [9] (.nm 9) (.it (.str "abcdefg")) (.bl true) (.tup (.cons (.bin .Add (.str "zzz") (.var 9)) (.cons (.bin .Add (.str "zzz") (.bin .Mult (.var 9) (.int 2))) .nil)))) Z st6 = .ok (.d (.lst Z7)) st6 := by
      rw [hZ]; kernel_rfl
    have zc : ev G5 ZM Z st6 = .ok (.d (.tup (cutG Z7 none (some (1 + sp))))) st6 := by
      have := ev_slcLl (G := G5) (ro := Z) (st := st6) (b := .bin .Add (.int 1) (.var 6)) (j := 1 + sp) rfl zz (by rw [peek_d]) (ev_bin_d (ev_int 1) (ev_var z6) (bin_add _ _))
      exact ev_bi1 this rfl
    have l7 := cutG_len Z7 none (some (1 + sp))
    have l77 : Z7.length = 7 := rfl
    have r := ev_bin_d (op := .Add) (ev_var (G := G5) (st := st6) z1) zc (bin_addT _ _ (by omega))
    unfold ZM at r
    have g := mk (es := ds ++ cutG Z7 none (some (1 + sp))) (app_all up fun g hg => (z7_ok g (cutG_mem hg)).up (by omega))
    refine ⟨_, st6, ?_, g.1, g.2, w6.up (by omega), pr⟩
    rw [exs_ret (ex_ret_d r), then_ret]; rfl
  · rw [if_neg (by simpa using hy0), exs_nil, O.then_nx]
    have c1 : ev G5 (.cmp .Eq (.var 2) (.int 1)) Z st6 = .ok (.d (.bl (way == 1))) st6 := ev_cmp_d (ev_var z2) (ev_int 1) (cmp_eqI _ _)
    rw [exs_cons, ex_iff_b c1]
    by_cases hy1 : way = 1
    · rw [if_pos (by simpa using hy1)]
      obtain ⟨L, st7, e7, o7, lL, gL⟩ := l6_ok (st := st6) z1 z3 up hl
      have w7 := w6.at (o7 n w6.lt)
      unfold L6M at e7
      rw [exs_nx (ex_set_d e7 (by rw [zl]; decide))]
      obtain ⟨t, st8, e8, t0, t1, w8, u8⟩ := ev_digit (G := G5) (ro := Z.set 7 (some (W.d (.lst L)))) (st := st7) (i := 0) (m := .int 6) (many := 6) d5 m2 (by simp [z0]) (ev_int 6) w7 (by decide) (by omega)
      obtain ⟨y, hy1', _, hy3⟩ := ix_mem (ds := L) t0 (by omega)
      have r : ev G5 (.sub (.var 7) (.callS "_law_digit" (.cons (.var 0) (.cons (.int 6) .nil)))) (Z.set 7 (some (W.d (.lst L)))) st7 = .ok (.d y) st8 := by
        rw [ev_sub, ev_var (w := .d (.lst L)) (by simp [zl]), R.bind_ok, e8, R.bind_ok, opt2_dd, hy1', okD_some]
      refine ⟨y, st8, ?_, (gL y hy3).1, (gL y hy3).2, w8.up (by omega), pr.trans ((pre_lt o7).trans (pre_oth u8))⟩
      rw [exs_ret (ex_ret_d r), then_ret]; rfl
    · rw [if_neg (by simpa using hy1), exs_nil, O.then_nx]
      have s1 := ev_slcL (G := G5) (st := st6) (b := .var 3) rfl (ev_var z1) (ev_var z3)
      have t8 : ev G5 (.tup (.cons (.var 8) .nil)) Z st6 = .ok (.d (.tup [fr])) st6 := by simp [ev_tup, evs_cons, evs_nil, ev_var z8]
      have ix : ev G5 (.bin .Add (.var 3) (.bin .Mod (.var 2) (.int 2))) Z st6 = .ok (.d (.int (at_ + way % 2))) st6 := ev_bin_d (ev_var z3) (ev_bin_d (ev_var z2) (ev_int 2) (bin_mod _ _ (by decide))) (bin_add _ _)
      have s2 := ev_slcR (G := G5) (st := st6) (b := .bin .Add (.var 3) (.bin .Mod (.var 2) (.int 2))) rfl (ev_var z1) ix
      have l1 := cutG_len ds none (some at_)
      have l2 := cutG_len ds (some (at_ + way % 2)) none
      have r := ev_bin_d (ev_bin_d s1 t8 (bin_addT _ _ (by simp only [List.length_singleton]; omega))) s2 (bin_addT _ _ (by simp only [List.length_append, List.length_singleton]; omega))
      have g := mk (es := cutG ds none (some at_) ++ [fr] ++ cutG ds (some (at_ + way % 2)) none) (app_all (app_all (cutT_all up) (one_all gf)) (cutT_all up))
      refine ⟨_, st6, ?_, g.1, g.2, w6.up (by omega), pr⟩
      rw [exs_ret (ex_ret_d r)]; rfl
end HX
set_option linter.all false
set_option maxRecDepth 100000
set_option maxHeartbeats 2000000
namespace HX
open PySem Ev
theorem fs_draw : G20.fs "_law_draw" = some (drawF G0) := by rfl
theorem d20 : G20.fs "_law_digit" = some (digitF G2) := by rfl
theorem c20 : G20.fs "_law_calls" = some f__law_calls := by rfl
theorem b20 : G20.fs "_law_bent" = some f__law_bent := by rfl
theorem r20 : G20.fs "_law_right" = some f__law_right := by rfl
theorem p20 : G20.fp "_law_due" = some f__law_due := by rfl
theorem lc_none {fc fe : Ro → Store → Ev.R W} {t : Ev.T} {ro : Ro} {J : Nat → Store → Prop} : ∀ (xs : List D) (k : Nat) (st : Store),
    (∀ i x, xs[i]? = some x → ∀ st, J (k + i) st → ∃ ro1 st2, asgT t x ro = some ro1 ∧ fc ro1 st = .ok (.d (.bl false)) st2 ∧ J (k + i + 1) st2) → J k st →
    ∃ st', lcRun fc fe t ro xs st [] = .ok [] st' ∧ J (k + xs.length) st'
  | [], k, st, _, hj => ⟨st, rfl, hj⟩
  | x :: xs, k, st, h, hj => by
    obtain ⟨ro1, st2, h1, h2, h3⟩ := h 0 x rfl st hj
    obtain ⟨st', h4, h5⟩ := lc_none (fc := fc) (fe := fe) (t := t) (ro := ro) (J := J) xs (k + 1) st2 (fun i y hy st hj => by
      have := h (i + 1) y (by simpa using hy) st (by rw [show k + (i + 1) = k + 1 + i by omega]; exact hj)
      rw [show k + (i + 1) = k + 1 + i by omega] at this
      exact this) h3
    refine ⟨st', ?_, by rw [List.length_cons, show k + (xs.length + 1) = k + 1 + xs.length by omega]; exact h5⟩
    simp only [lcRun, h1, h2, tst_bl, Bool.false_eq_true, if_false]
    exact h4
theorem valid_gv {x : D} (h : callsX x = none) (hx : okT x = true) : ∃ ds, x = .tup ds ∧ ds.length ≤ 6 ∧ ∀ g ∈ ds, GV 4 g := by
  obtain ⟨ds, rfl, h6, hg, _⟩ := calls_valid h
  refine ⟨ds, rfl, h6, fun g hm => ⟨List.all_eq_true.mp hx g hm, ?_⟩⟩
  obtain ⟨ss, rfl, _, h4, _, _⟩ := group_strs (hg g hm)
  show (ss.map D.str).length ≤ 4
  rw [List.length_map]; exact h4
def ABM : M := (.tup (.cons (.tup (.cons (.str "a") (.cons (.str "b") .nil))) (.cons (.tup (.cons (.str "a") (.cons (.str "b") .nil))) .nil)))
def abD : D := .tup [.tup [.str "a", .str "b"], .tup [.str "a", .str "b"]]
theorem ev_ab {ro : Ro} {st : Store} : ev G20 ABM ro st = .ok (.d abD) st := by simp [ABM, abD, ev_tup, evs_cons, evs_nil, ev_str]
theorem right_all {ro : Ro} {st : Store} {c n : Nat} {L : List D} {T : Int} (h3 : ro[3]? = some (some (.cell n))) (h6 : ro[6]? = some (some (.cell c))) (hl : ro.length = 8) (hc : st[c]? = some (.lst L)) (nc : n ≠ c) (hL : ∀ y ∈ L, okT y = true) (l5 : L.length ≤ 5) (hw : Drw st n T) (hT : T < 2 ^ 36) :
    ∃ st', ev G20 (.lc [7] (.nm 7) (.it (.var 6)) (.not (.callS "_law_right" (.cons (.var 3) (.cons (.var 7) .nil)))) (.var 7)) ro st = .ok (.d (.lst [])) st' := by
  have ei : evi G20 (.it (.var 6)) ro st = .ok L (st.set c (.frz (.lst L))) := by
    rw [evi_it, ev_var h6, Ev.R.bind_ok]
    simp only [keepD, hc, Ev.R.bind_ok]
    rfl
  have w1 : Drw (st.set c (.frz (.lst L))) n (T + 300 * (0 : Nat)) := (hw.at (List.getElem?_set_ne (by omega))).up (by omega)
  have nl := hw.lt
  obtain ⟨st', k1, _⟩ := lc_none (fc := ev G20 (.not (.callS "_law_right" (.cons (.var 3) (.cons (.var 7) .nil))))) (fe := ev G20 (.var 7)) (t := .nm 7) (ro := wipeW ro [7]) (J := fun k s => Drw s n (T + 300 * (k : Nat))) L 0 (st.set c (.frz (.lst L))) (fun i x hx s hj => by
    have hi : i < L.length := (List.getElem?_eq_some_iff.mp hx).1
    obtain ⟨s2, e1, e2, _⟩ := right_ok (hL x (List.mem_of_getElem? hx)) hj (by omega)
    refine ⟨(wipeW ro [7]).set 7 (some (.d x)), s2, by simp [asgT, wipeW, hl], ?_, e2.up (by omega)⟩
    have g3 : ((wipeW ro [7]).set 7 (some (W.d x)))[3]? = some (some (.cell n)) := by
      have := (List.getElem?_eq_some_iff.mp h3).2
      simpa [wipeW, hl] using this
    have g7 : ((wipeW ro [7]).set 7 (some (W.d x)))[7]? = some (some (.d x)) := by simp [wipeW, hl]
    rw [ev_not, ev_callS2 r20 (ev_var g3) (ev_var g7) e1, tst_bl]
    rfl) w1
  refine ⟨st', ?_⟩
  rw [ev_lcU, ei, Ev.R.bind_ok, k1]
  simp only [Ev.R.nox, Ev.R.bind_ok]
  rw [if_pos (by omega)]
theorem turn_ok (i : Nat) (c : Int) (ro : Ro) (st : Store) (hi : i < 64) (hr : ro.length = 8) :
    ∃ ro2 st2, exs G20 l_law_0 ((ro.set 1 (some (.d (.int i)))).set 2 (some (.d (.int c)))) st = .nx ro2 st2 ∧ ro2.length = 8 := by
  obtain ⟨R0, hR0⟩ : ∃ r, r = (ro.set 1 (some (W.d (.int i)))).set 2 (some (.d (.int c))) := ⟨_, rfl⟩
  rw [← hR0]
  have n0 : R0.length = 8 := by rw [hR0]; simp [hr]
  obtain ⟨st1, d1, w1⟩ := ev_draw (G := G20) (st := st) (i := 2) (j := 1) (c := c) (k := i) fs_draw (ro := R0) (by rw [hR0]; simp [hr]) (by rw [hR0]; simp [hr]) (by omega)
  unfold l_law_0
  rw [exs_nx (ex_set_d d1 (by omega))]
  obtain ⟨n, hn⟩ : ∃ n, n = st.length := ⟨_, rfl⟩
  rw [← hn] at w1 ⊢
  obtain ⟨R1, hR1⟩ : ∃ r, r = R0.set 3 (some (W.cell n)) := ⟨_, rfl⟩
  rw [← hR1]
  have n1 : R1.length = 8 := by rw [hR1]; simp [n0]
  have r13 : R1[3]? = some (some (.cell n)) := by rw [hR1]; simp [n0]
  obtain ⟨b, st2, e2, b0, b1, w2, _⟩ := ev_digit (G := G20) (ro := R1) (st := st1) (i := 3) (m := .int 3) (many := 3) d20 m2 r13 (ev_int 3) w1 (by decide) (by decide)
  rw [exs_nx (ex_set_d e2 (by omega))]
  obtain ⟨R2, hR2⟩ : ∃ r, r = R1.set 4 (some (W.d (.int b))) := ⟨_, rfl⟩
  rw [← hR2]
  have n2 : R2.length = 8 := by rw [hR2]; simp [n1]
  have r23 : R2[3]? = some (some (.cell n)) := by rw [hR2]; simp [r13]
  obtain ⟨x, st3, e3, cx, ox, w3⟩ := calls_ok w2 (by decide)
  have s5 : ev G20 (.callS "_law_calls" (.cons (.var 3) .nil)) R2 st2 = .ok (.d x) st3 := by
    simp only [ev_callS c20, evs_cons, evs_nil, ev_var r23, Ev.R.bind_ok]; exact e3
  rw [exs_nx (ex_set_d s5 (by omega))]
  obtain ⟨ds, rfl, h6, gv⟩ := valid_gv cx ox
  obtain ⟨R3, hR3⟩ : ∃ r, r = R2.set 5 (some (W.d (.tup ds))) := ⟨_, rfl⟩
  rw [← hR3]
  have n3 : R3.length = 8 := by rw [hR3]; simp [n2]
  have r33 : R3[3]? = some (some (.cell n)) := by rw [hR3]; simp [r23]
  have r35 : R3[5]? = some (some (.d (.tup ds))) := by rw [hR3]; simp [n2]
  have r34 : R3[4]? = some (some (.d (.int b))) := by rw [hR3, hR2]; simp [n1]
  obtain ⟨y, st4, e4, oy, gy, w4, _⟩ := bent_ok (m := 4) gv (by omega) (by decide) (by decide) w3 (by decide)
  have s6a : ev G20 (.callS "_law_bent" (.cons (.var 3) (.cons (.var 5) .nil))) R3 st3 = .ok (.d y) st4 := ev_callS2 b20 (ev_var r33) (ev_var r35) e4
  have ab := ev_ab (ro := R3) (st := st4)
  unfold ABM at ab
  have s6 : ev G20 (.lstc (.cons (.var 5) (.cons (.callS "_law_bent" (.cons (.var 3) (.cons (.var 5) .nil))) (.cons (.tup .nil) (.cons (.tup (.cons (.tup (.cons (.str "a") (.cons (.str "b") .nil))) (.cons (.tup (.cons (.str "a") (.cons (.str "b") .nil))) .nil))) .nil))))) R3 st3 = .ok (.cell st4.length) (st4 ++ [.lst [.tup ds, y, .tup [], abD]]) := by
    have t0 : ev G20 (.tup .nil) R3 st4 = .ok (.d (.tup [])) st4 := by simp [ev_tup, evs_nil]
    have al : evs G20 (.cons (.var 5) (.cons (.callS "_law_bent" (.cons (.var 3) (.cons (.var 5) .nil))) (.cons (.tup .nil) (.cons (.tup (.cons (.tup (.cons (.str "a") (.cons (.str "b") .nil))) (.cons (.tup (.cons (.str "a") (.cons (.str "b") .nil))) .nil))) .nil)))) R3 st3 = .ok [.d (.tup ds), .d y, .d (.tup []), .d abD] st4 := by
      rw [evs_cons, ev_var r35, Ev.R.bind_ok, evs_cons, s6a, Ev.R.bind_ok, evs_cons, t0, Ev.R.bind_ok, evs_cons, ab, Ev.R.bind_ok, evs_nil]
      rfl
    have key : ∀ (es : Ms), ev G20 (.lstc es) R3 st3 = (evs G20 es R3 st3).bind fun ws st1 => (keepAll ws st1).bind fun ds st2 => if ds.length ≤ 1000 then .ok (.cell st2.length) (st2 ++ [.lst ds]) else .bad := fun es => by simp only [ev]
    rw [key, al, Ev.R.bind_ok]
    simp only [keepAll, keepD_d, Ev.R.bind_ok]
    rw [if_pos (by simp)]
  rw [exs_nx (ex_set_d s6 (by omega))]
  obtain ⟨R4, hR4⟩ : ∃ r, r = R3.set 6 (some (W.cell st4.length)) := ⟨_, rfl⟩
  rw [← hR4]
  have n4 : R4.length = 8 := by rw [hR4]; simp [n3]
  have r43 : R4[3]? = some (some (.cell n)) := by rw [hR4]; simp [r33]
  have r45 : R4[5]? = some (some (.d (.tup ds))) := by rw [hR4]; simp [r35]
  have r44 : R4[4]? = some (some (.d (.int b))) := by rw [hR4]; simp [r34]
  have r46 : R4[6]? = some (some (.cell st4.length)) := by rw [hR4]; simp [n3]
  have nl := w4.lt
  obtain ⟨S5, hS5⟩ : ∃ s : Store, s = st4 ++ [.lst [.tup ds, y, .tup [], abD]] := ⟨_, rfl⟩
  rw [← hS5]
  have w5 : Drw S5 n (64000 + 4 + 20000 + 100) := w4.at (by rw [hS5, List.getElem?_append_left nl])
  have c5 : S5[st4.length]? = some (.lst [.tup ds, y, .tup [], abD]) := by rw [hS5]; simp
  have sub1 : ev G20 (.sub (.var 6) (.int 1)) R4 S5 = .ok (.d y) S5 := by
    rw [ev_sub, ev_var r46, Ev.R.bind_ok, ev_int, Ev.R.bind_ok]
    show okD ((peek S5 (.cell st4.length)).bind fun u => (peek S5 (.d (.int 1))).bind fun v => ixD u v) S5 = _
    simp only [peek, c5, Option.bind_some]
    rfl
  have okab : okT abD = true := by kernel_rfl
  -- the fifth
  have five : ∃ (S6 : Store) (L : List D), ex G20 (.iff (.and2 (.cmp .Eq (.var 4) (.int 2)) (.isi (.sub (.var 6) (.int 1)) .tuple)) (.cons (.app (.var 6) (.callS "_law_bent" (.cons (.var 3) (.cons (.slc (.sub (.var 6) (.int 1)) .absent (.int 6)) .nil)))) .nil) .nil) R4 S5 = .nx R4 S6 ∧ S6[st4.length]? = some (.lst L) ∧ L.length ≤ 5 ∧ (∀ z ∈ L, okT z = true) ∧ Drw S6 n 100000 := by
    have base : ∀ z ∈ [D.tup ds, y, .tup [], abD], okT z = true := fun z hz => by
      simp only [List.mem_cons, List.mem_nil_iff, or_false] at hz
      rcases hz with rfl | rfl | rfl | rfl
      · exact ox
      · exact oy
      · rfl
      · exact okab
    have c1 : ev G20 (.cmp .Eq (.var 4) (.int 2)) R4 S5 = .ok (.d (.bl (b == 2))) S5 := ev_cmp_d (ev_var r44) (ev_int 2) (cmp_eqI _ _)
    have it : ∃ t, isiD y .tuple = some t ∧ (t = true → ∃ es, y = .tup es) := by
      cases y with
      | tup es => exact ⟨true, rfl, fun _ => ⟨es, rfl⟩⟩
      | exv _ _ _ => cases oy
      | scr _ => cases oy
      | _ => exact ⟨false, rfl, fun z => by cases z⟩
    obtain ⟨t, t1, t2⟩ := it
    have c := ev_and_b c1 fun _ => ev_isi_d sub1 t1
    rw [ex_iff_b c]
    cases hb : ((b == 2) && t) with
    | false =>
      rw [if_neg (by decide), exs_nil]
      exact ⟨S5, _, rfl, c5, by simp, base, w5.up (by decide)⟩
    | true =>
      rw [if_pos rfl]
      have ht : t = true := (Bool.and_eq_true_iff.mp hb).2
      obtain ⟨es, rfl⟩ := t2 ht
      have sl := ev_slcL (G := G20) (ro := R4) (st := S5) (b := .int 6) rfl sub1 (ev_int 6)
      have cl := cutG_len es none (some 6)
      have c6 : (cutG es none (some (6 : Int))).length ≤ 6 := by
        have := cutG_take es 6
        rw [show ((6 : Nat) : Int) = 6 from rfl] at this
        rw [this, List.length_take]
        omega
      have gz : ∀ g ∈ cutG es none (some (6 : Int)), GV 10 g := fun g hg => (gy es rfl g (cutG_mem hg)).up (by decide)
      obtain ⟨z, S6, e7, oz, _, w7, p7⟩ := bent_ok (m := 10) gz (by omega) (by decide) (by decide) w5 (by decide)
      have bz : ev G20 (.callS "_law_bent" (.cons (.var 3) (.cons (.slc (.sub (.var 6) (.int 1)) .absent (.int 6)) .nil))) R4 S5 = .ok (.d z) S6 := ev_callS2 b20 (ev_var r43) sl e7
      have c7 : S6[st4.length]? = some (.lst [.tup ds, .tup es, .tup [], abD]) := p7 _ _ (by omega) c5
      have ap : ex G20 (.app (.var 6) (.callS "_law_bent" (.cons (.var 3) (.cons (.slc (.sub (.var 6) (.int 1)) .absent (.int 6)) .nil)))) R4 S5 = .nx R4 (S6.set st4.length (.lst ([.tup ds, .tup es, .tup [], abD] ++ [z]))) := by
        simp only [ex, ev_var r46, Ev.R.o_ok]
        rw [if_pos (by simp [isLst, c5])]
        simp only [bz, Ev.R.o_ok, keepD_d, appC, c7]
        rw [if_pos (by simp)]
      refine ⟨S6.set st4.length (.lst ([.tup ds, .tup es, .tup [], abD] ++ [z])), _, by rw [exs_nx ap, exs_nil], List.getElem?_set_self (List.getElem?_eq_some_iff.mp c7).1, by simp, ?_, (w7.at (List.getElem?_set_ne (by omega))).up (by decide)⟩
      intro u hu
      rcases List.mem_append.mp hu with h | h
      · exact base u h
      · rw [List.mem_singleton.mp h]; exact oz
  obtain ⟨S6, L, x1, x2, x3, x4, x5⟩ := five
  rw [exs_nx x1]
  have due := ldue (.tup ds) ox
  rw [cx] at due
  have c1 := ev_cmp_d (op := .IsNot) (b := .non) (ev_callP1 (G := G20) (ro := R4) (st := S6) p20 (ev_var r45) due) ev_non (cmp_isnot _)
  obtain ⟨S7, ra⟩ := right_all (c := st4.length) r43 r46 n4 x2 (by omega) x4 x3 x5 (by decide)
  have last : ex G20 (.iff (.or2 (.cmp .IsNot (.callP "_law_due" (.cons (.var 5) .nil)) .non) (.cmp .NotEq (.lc [7] (.nm 7) (.it (.var 6)) (.not (.callS "_law_right" (.cons (.var 3) (.cons (.var 7) .nil)))) (.var 7)) (.lst .nil))) (.cons (.ret (.bl false)) .nil) .nil) R4 S6 = .nx R4 S7 := by
    have ne : ev G20 (.cmp .NotEq (.lc [7] (.nm 7) (.it (.var 6)) (.not (.callS "_law_right" (.cons (.var 3) (.cons (.var 7) .nil)))) (.var 7)) (.lst .nil)) R4 S6 = .ok (.d (.bl false)) S7 := by
      rw [ev_cmp, ra, Ev.R.bind_ok, ev_lst0, Ev.R.bind_ok, opt2_dd, ne_nilD, okB_some]
      rfl
    have : ev G20 (.or2 (.cmp .IsNot (.callP "_law_due" (.cons (.var 5) .nil)) .non) (.cmp .NotEq (.lc [7] (.nm 7) (.it (.var 6)) (.not (.callS "_law_right" (.cons (.var 3) (.cons (.var 7) .nil)))) (.var 7)) (.lst .nil))) R4 S6 = .ok (.d (.bl false)) S7 := by
      rw [ev_or, c1, tst_bl]
      rw [if_neg (by decide)]
      exact ne
    rw [ex_iff_b this, if_neg (by decide), exs_nil]
  rw [exs_nx last, exs_nil]
  exact ⟨_, _, rfl, n4⟩
theorem law_true (ns : List Int) (hl : ns.length ≤ 63) (hbits : ∀ z ∈ ns, Builtin.Int.intBits z ≤ 1048576) : f_law [.scr ns] = some (.ok (.bl true)) :=
  law_for (G := G20) (L := 8) (body := l_law_0) (N := 12) hl (by decide) turn_ok
end HX
open PySem PySem.W PySem.Calls PyProof.Rows
theorem PySem.Challenge.cw_heirlists_k02_calls_looked_at_holds : PySem.Challenge.rw_heirlists_k02_calls_looked_at.Holds := by
  w_on; o_law
  refine HandSHeadRun.head_any (r := OpenLaw.row PySem.Challenge.rw_heirlists_k02_calls_looked_at) (q := view (OpenLaw.row PySem.Challenge.rw_heirlists_k02_calls_looked_at).prog [40]) (H := HX.hk) (ob := HX.ob) (M := 20000) (loose := HX.loose) (d := HandSHeadRun.topDef (OpenLaw.row PySem.Challenge.rw_heirlists_k02_calls_looked_at).prog 40) (kwd := []) HX.ob_eq
    (by kernel_rfl) (fun s => by kernel_rfl) HX.run (by kernel_rfl) (by kernel_rfl) (by kernel_rfl) (by rfl) (by first | assumption | decide +kernel) (by decide +kernel) ⟨rfl, rfl, rfl, rfl, rfl, by decide +kernel⟩ ?hw ?hc
  case hw => w_witness2
  case hc =>
    refine Ev.walk_ofG (l := PySem.Challenge.rw_heirlists_k02_calls_looked_at) (n := 63) (k := 23) (x := "_law_script") rfl (by decide +kernel) (by kernel_rfl) ⟨rfl, by decide, by decide⟩ ?F
    intro w mg fa h Y Gm hmg0
    obtain ⟨K, KX, c⟩ := Y
    have hmg : mg ("law" : PySem.Str) = some (.ref fa) := by
      have e : (HandSHeadRun.topDef (OpenLaw.row PySem.Challenge.rw_heirlists_k02_calls_looked_at).prog 40).name = ("law" : PySem.Str) := by kernel_rfl
      rw [← e]
      exact hmg0
    obtain ⟨fd, hb, hF⟩ := HX.facts (P := (PySem.Challenge.rw_heirlists_k02_calls_looked_at).prog) (w := w) KX Gm hmg c.1 c.2
    exact ⟨K, fd, Ev.spP (Ev.isXv K) K 1 HX.f_law, KX, hb, fun H a ns hl hbits hS => Ev.law_sp (HX.law_true ns hl hbits) hS, hF⟩
