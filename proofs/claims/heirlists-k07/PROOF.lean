import PyProof.Rows.All
import Wide.All
import OpenK.AllK
import Wide.FinOn
import HandS.ForMost
import HandS.Exc
import HandS.ExcOwn
import HandS.WordsExc
import HandS.Flow
import HandS.Defaults
import HandS.CallSlots
import HandS.ExcInit
import HandS.ExcIs
import HandS.ExcField
import HandS.ExcValue
import HandS.Small
import HandS.HeadHook1
import KE.KExcIs
import HandS.HeadHook2
import KE.GoesMore
import KE.GoesEnum
import HandS.Iter
import HandS.Wide
import HandS.TupAny
import HandS.TupMul
import HandS.Style
import HandS.IsInst
import HandS.Deep
import HandS.Replace
import HandS.ExcCtx
import HandS.RaiseMore
import HandS.EndBits
import HandS.HeadEnd
import HandS.Zip
import HandS.Strs
import HandS.Codes
import KE.IntTextLaws
import HandS.HeadHook4
import HandS.Head0
import HandS.Head1
import HandS.Head2
import HandS.HeadHook3
import PySem.Challenge.RW_heirlists_k07_refusals_by_hand
set_option Elab.async false
set_option linter.all false
set_option maxRecDepth 100000
set_option maxHeartbeats 4000000
namespace Ev
open PySem PySem.Spec PyProof.Rows L2

/-! ### data -/
inductive D where
  | non | bl (b : Bool) | int (i : Int) | str (s : Str)
  | lst (xs : List D) | tup (xs : List D)
  /-- a dict that changes no more, its keys numbers or texts -/
  | dic (ks : List Key) (xs : List D)
  /-- the script that is handed in -/
  | scr (ns : List Int)
  /-- an exception of a class of the program, its fields, the one stored last ahead -/
  | exv (c : Str) (ks : List Str) (xs : List D)

mutual
def D.dep : D → Nat
  | .lst xs => D.deps xs + 1
  | .tup xs => D.deps xs + 1
  | .non => 0 | .bl _ => 0 | .int _ => 0 | .str _ => 0 | .dic _ _ => 0 | .scr _ => 0 | .exv _ _ _ => 0
def D.deps : List D → Nat
  | [] => 0
  | x :: xs => max (D.dep x) (D.deps xs)
end
mutual
/-- no dict in it -/
def D.nod : D → Bool
  | .lst xs => D.nods xs
  | .tup xs => D.nods xs
  | .non => true | .bl _ => true | .int _ => true | .str _ => true | .dic _ _ => false | .scr _ => false | .exv _ _ _ => false
def D.nods : List D → Bool
  | [] => true
  | x :: xs => D.nod x && D.nods xs
end
mutual
/-- a == b -/
def D.eqv : D → D → Bool
  | .non, .non => true
  | .bl a, .bl b => a == b
  | .bl a, .int j => (if a then 1 else 0) == j
  | .int i, .bl b => i == (if b then 1 else 0)
  | .int i, .int j => i == j
  | .str x, .str y => x == y
  | .lst xs, .lst ys => D.eqvs xs ys
  | .tup xs, .tup ys => D.eqvs xs ys
  | _, _ => false
def D.eqvs : List D → List D → Bool
  | [], [] => true
  | x :: xs, y :: ys => D.eqv x y && D.eqvs xs ys
  | _, _ => false
end

/-- an exception object of the class cls, its dict at d -/
def exq (cls : Value) (d : Option Addr) (a : Addr) : HO := .ext fun h => ∃ (oe : Obj) (vs : Array Value), h.get? a = some oe ∧ Zc cls d oe ∧ oe.data = .fields vs
mutual
inductive RelD (K : PySem.W.Frag) (H : Hp) : V → D → Prop
  | non : RelD K H .non .non
  | bl (b : Bool) : RelD K H (.bl b) (.bl b)
  | int (i : Int) : RelD K H (.int i) (.int i)
  | str (x : Str) : RelD K H (.str x) (.str x)
  | lst {a : Addr} {xs : List V} {ds : List D} : H a = some (.lst xs) → RelDs K H xs ds → RelD K H (.ref a) (.lst ds)
  | scr {a : Addr} {ns : List Int} : SqL K H a (ns.map V.int) → RelD K H (.ref a) (.scr ns)
  | tup {a : Addr} {xs : List V} {ds : List D} : SqT K H a xs → RelDs K H xs ds → RelD K H (.ref a) (.tup ds)
  | dic {a : Addr} {ks : List Key} {xs : List V} {ds : List D} : H a = some (.dK (ks.zip xs)) → ks.length = xs.length → RelDs K H xs ds → RelD K H (.ref a) (.dic ks ds)
  | exv0 {a : Addr} {c : Str} : H a = some (exq (.ref (He.ga K c)) none a) → RelD K H (.ref a) (.exv c [] [])
  | exv {a dx : Addr} {c : Str} {ks : List Str} {xs : List V} {ds : List D} : H a = some (exq (.ref (He.ga K c)) (some dx) a) → H dx = some (.xd (ks.zip xs)) → ks.length = xs.length → RelDs K H xs ds → RelD K H (.ref a) (.exv c ks ds)
inductive RelDs (K : PySem.W.Frag) (H : Hp) : List V → List D → Prop
  | nil : RelDs K H [] []
  | cons {v : V} {vs : List V} {d : D} {ds : List D} : RelD K H v d → RelDs K H vs ds → RelDs K H (v :: vs) (d :: ds)
end

def Le (H H' : Hp) : Prop := ∀ a o, H a = some o → H' a = some o
theorem Le.refl (H : Hp) : Le H H := fun _ _ h => h
theorem Le.trans {H H1 H2 : Hp} (a : Le H H1) (b : Le H1 H2) : Le H H2 := fun c o h => b c o (a c o h)
theorem Le.sql {K : PySem.W.Frag} {H H' : Hp} {a : Addr} {xs : List V} (e : Le H H') (h : SqL K H a xs) : SqL K H' a xs := by
  rcases h with (h | ⟨o, h⟩) | h
  · exact .inl (.inl (e _ _ h))
  · exact .inl (.inr ⟨o, e _ _ h⟩)
  · exact .inr h
theorem Le.sqt {K : PySem.W.Frag} {H H' : Hp} {a : Addr} {xs : List V} (e : Le H H') (h : SqT K H a xs) : SqT K H' a xs := by
  rcases h with (h | ⟨o, h⟩) | h
  · exact .inl (.inl (e _ _ h))
  · exact .inl (.inr ⟨o, e _ _ h⟩)
  · exact .inr h
theorem Le.upd {H : Hp} {p : Addr} {o : HO} (h : H p = none) : Le H (upd H p o) := fun b x e => by
  rw [upd_ne (ne_of_none e h)]; exact e
mutual
theorem RelD.mono {K : PySem.W.Frag} {H H' : Hp} (e : Le H H') : ∀ {v : V} {d : D}, RelD K H v d → RelD K H' v d
  | _, _, .non => .non
  | _, _, .bl b => .bl b
  | _, _, .int i => .int i
  | _, _, .str x => .str x
  | _, _, .lst h r => .lst (e _ _ h) (RelDs.mono e r)
  | _, _, .scr h => .scr (e.sql h)
  | _, _, .tup h r => .tup (e.sqt h) (RelDs.mono e r)
  | _, _, .dic h l r => .dic (e _ _ h) l (RelDs.mono e r)
  | _, _, .exv0 h => .exv0 (e _ _ h)
  | _, _, .exv h h2 l r => .exv (e _ _ h) (e _ _ h2) l (RelDs.mono e r)
theorem RelDs.mono {K : PySem.W.Frag} {H H' : Hp} (e : Le H H') : ∀ {vs : List V} {ds : List D}, RelDs K H vs ds → RelDs K H' vs ds
  | _, _, .nil => .nil
  | _, _, .cons h r => .cons (RelD.mono e h) (RelDs.mono e r)
end
theorem RelDs.length {K : PySem.W.Frag} {H : Hp} : ∀ {vs : List V} {ds : List D}, RelDs K H vs ds → vs.length = ds.length
  | _, _, .nil => rfl
  | _, _, .cons _ r => by rw [List.length_cons, List.length_cons, RelDs.length r]
theorem RelDs.get {K : PySem.W.Frag} {H : Hp} : ∀ {vs : List V} {ds : List D}, RelDs K H vs ds → ∀ {i : Nat} {v : V}, vs[i]? = some v → ∃ d, ds[i]? = some d ∧ RelD K H v d
  | _, _, .nil, i, v, e => by simp at e
  | _, _, .cons h r, 0, v, e => by simp at e; subst e; exact ⟨_, rfl, h⟩
  | _, _, .cons h r, i + 1, v, e => by
    obtain ⟨d, h1, h2⟩ := RelDs.get r (i := i) (v := v) (by simpa using e)
    exact ⟨d, by simpa using h1, h2⟩
theorem RelDs.get' {K : PySem.W.Frag} {H : Hp} : ∀ {vs : List V} {ds : List D}, RelDs K H vs ds → ∀ {i : Nat} {d : D}, ds[i]? = some d → ∃ v, vs[i]? = some v ∧ RelD K H v d
  | _, _, .nil, i, v, e => by simp at e
  | _, _, .cons h r, 0, v, e => by simp at e; subst e; exact ⟨_, rfl, h⟩
  | _, _, .cons h r, i + 1, v, e => by
    obtain ⟨d, h1, h2⟩ := RelDs.get' r (i := i) (d := v) (by simpa using e)
    exact ⟨d, by simpa using h1, h2⟩
theorem RelDs.append {K : PySem.W.Frag} {H : Hp} : ∀ {vs us : List V} {ds es : List D}, RelDs K H vs ds → RelDs K H us es → RelDs K H (vs ++ us) (ds ++ es)
  | _, _, _, _, .nil, s => s
  | _, _, _, _, .cons h r, s => .cons h (RelDs.append r s)
theorem RelDs.take {K : PySem.W.Frag} {H : Hp} : ∀ (n : Nat) {vs : List V} {ds : List D}, RelDs K H vs ds → RelDs K H (vs.take n) (ds.take n)
  | 0, _, _, _ => by simp only [List.take_zero]; exact .nil
  | n + 1, _, _, .nil => by simp only [List.take_nil]; exact .nil
  | n + 1, _, _, .cons h r => by simp only [List.take_succ_cons]; exact .cons h (RelDs.take n r)
theorem RelDs.drop {K : PySem.W.Frag} {H : Hp} : ∀ (n : Nat) {vs : List V} {ds : List D}, RelDs K H vs ds → RelDs K H (vs.drop n) (ds.drop n)
  | 0, _, _, r => by simpa using r
  | n + 1, _, _, .nil => by simp only [List.drop_nil]; exact .nil
  | n + 1, _, _, .cons h r => by simp only [List.drop_succ_cons]; exact RelDs.drop n r

/-! ### values, cells, the store -/
inductive W where
  | d (x : D)
  | cell (n : Nat)
inductive Cell where
  /-- a list that grows -/
  | lst (xs : List D)
  /-- a dict that changes, its keys numbers or texts -/
  | dic (kvs : List (Key × D))
  /-- what changes no more -/
  | frz (x : D)
  /-- an instance of a class of the program, its fields -/
  | obj (c : Str) (fs : List (Str × W))
abbrev Store := List Cell
/-- an exception: its class's name, its fields -/
structure Xv where
  cls : Str
  ks : List Str
  xs : List D
inductive R (α : Type) where
  | ok (a : α) (st : Store)
  | exc (x : Xv) (st : Store)
  | bad
def R.bind {α β : Type} : R α → (α → Store → R β) → R β
  | .ok a st, f => f a st
  | .exc x st, _ => .exc x st
  | .bad, _ => .bad
@[simp] theorem R.bind_exc {α β : Type} (x : Xv) (st : Store) (f : α → Store → R β) : (R.exc x st : R α).bind f = .exc x st := rfl
@[simp] theorem R.bind_ok {α β : Type} (a : α) (st : Store) (f : α → Store → R β) : (R.ok a st).bind f = f a st := rfl
@[simp] theorem R.bind_bad {α β : Type} (f : α → Store → R β) : (R.bad : R α).bind f = .bad := rfl

inductive RelKV (K : PySem.W.Frag) (H : Hp) : List (Key × V) → List (Key × D) → Prop
  | nil : RelKV K H [] []
  | cons {k : Key} {v : V} {d : D} {vs : List (Key × V)} {ds : List (Key × D)} : RelD K H v d → RelKV K H vs ds → RelKV K H ((k, v) :: vs) ((k, d) :: ds)
theorem RelKV.mono {K : PySem.W.Frag} {H H' : Hp} (e : Le H H') : ∀ {vs : List (Key × V)} {ds : List (Key × D)}, RelKV K H vs ds → RelKV K H' vs ds
  | _, _, .nil => .nil
  | _, _, .cons h r => .cons (h.mono e) (RelKV.mono e r)

def RelW (K : PySem.W.Frag) (Hd : Hp) (io : List Addr) : W → V → Prop
  | .d x, v => RelD K Hd v x
  | .cell n, v => ∃ a, v = .ref a ∧ io[n]? = some a
inductive RelFs (K : PySem.W.Frag) (Hd : Hp) (io : List Addr) : List (Str × V) → List (Str × W) → Prop
  | nil : RelFs K Hd io [] []
  | cons {f : Str} {v : V} {w : W} {vs : List (Str × V)} {ws : List (Str × W)} : RelW K Hd io w v → RelFs K Hd io vs ws → RelFs K Hd io ((f, v) :: vs) ((f, w) :: ws)
theorem RelW.more {K : PySem.W.Frag} {Hd Hd' : Hp} {io r : List Addr} (e : Le Hd Hd') {w : W} {v : V} (h : RelW K Hd io w v) : RelW K Hd' (io ++ r) w v := by
  cases w with
  | d x => exact RelD.mono e h
  | cell n =>
    obtain ⟨a, h1, h2⟩ := h
    exact ⟨a, h1, by rw [List.getElem?_append_left (List.getElem?_eq_some_iff.mp h2).1]; exact h2⟩
theorem RelFs.more {K : PySem.W.Frag} {Hd Hd' : Hp} {io r : List Addr} (e : Le Hd Hd') : ∀ {vs : List (Str × V)} {ws : List (Str × W)}, RelFs K Hd io vs ws → RelFs K Hd' (io ++ r) vs ws
  | _, _, .nil => .nil
  | _, _, .cons h k => .cons (h.more e) (RelFs.more e k)
theorem RelFs.le {K : PySem.W.Frag} {Hd Hd' : Hp} {io : List Addr} (e : Le Hd Hd') {vs : List (Str × V)} {ws : List (Str × W)} (h : RelFs K Hd io vs ws) : RelFs K Hd' io vs ws := by
  have := RelFs.more (r := []) e h
  rwa [List.append_nil] at this
def CellOk (K : PySem.W.Frag) (Hd : Hp) (io : List Addr) (H : Hp) (a : Addr) : Cell → Prop
  | .lst ds => Hd a = none ∧ ∃ vs, H a = some (.lst vs) ∧ RelDs K Hd vs ds
  | .dic kvs => Hd a = none ∧ ∃ vs, H a = some (.dK vs) ∧ RelKV K Hd vs kvs
  | .frz d => RelD K Hd (.ref a) d
  | .obj c fs => Hd a = none ∧ ∃ dx vs, H a = some (.ins (He.ga K c) dx vs) ∧ H dx = some (.own a) ∧ Hd dx = none ∧ dx ∉ io ∧ RelFs K Hd io vs fs

structure Rl (K : PySem.W.Frag) (Hd : Hp) (io : List Addr) (st : Store) (H : Hp) : Prop where
  sub : Le Hd H
  nd : io.Nodup
  len : io.length = st.length
  cel : ∀ (n : Nat) a c, io[n]? = some a → st[n]? = some c → CellOk K Hd io H a c
  liv : ∀ a ∈ io, H a ≠ none

structure Ext (Hd : Hp) (io : List Addr) (H Hd' : Hp) (io' : List Addr) (H' : Hp) : Prop where
  hd : Le Hd Hd'
  new : ∀ a, Hd a = none → Hd' a ≠ none → H a = none ∨ a ∈ io
  pre : ∃ r, io' = io ++ r ∧ ∀ a ∈ r, H a = none
  fr : ∀ a o, H a = some o → a ∉ io → H' a = some o
  liv : ∀ a, H' a = none → H a = none
theorem Ext.refl {Hd : Hp} {io : List Addr} {H : Hp} : Ext Hd io H Hd io H :=
  ⟨Le.refl _, fun _ h1 h2 => absurd h1 h2, ⟨[], by simp, by simp⟩, fun _ _ h _ => h, fun _ h => h⟩
theorem Ext.trans {Hd Hd1 Hd2 H H1 H2 : Hp} {io io1 io2 : List Addr} (a : Ext Hd io H Hd1 io1 H1) (b : Ext Hd1 io1 H1 Hd2 io2 H2) : Ext Hd io H Hd2 io2 H2 := by
  obtain ⟨r1, e1, n1⟩ := a.pre
  obtain ⟨r2, e2, n2⟩ := b.pre
  refine ⟨a.hd.trans b.hd, fun x h1 h2 => ?_, ⟨r1 ++ r2, by rw [e2, e1, List.append_assoc], fun x hx => ?_⟩, fun x o h hx => ?_, fun x h => a.liv x (b.liv x h)⟩
  · by_cases h : Hd1 x = none
    · rcases b.new x h h2 with z | z
      · exact .inl (a.liv x z)
      · rw [e1] at z
        rcases List.mem_append.mp z with z | z
        · exact .inr z
        · exact .inl (n1 x z)
    · exact a.new x h1 h
  · rcases List.mem_append.mp hx with z | z
    · exact n1 x z
    · exact a.liv x (n2 x z)
  · refine b.fr x o (a.fr x o h hx) fun z => ?_
    rw [e1] at z
    rcases List.mem_append.mp z with z | z
    · exact hx z
    · rw [n1 x z] at h; cases h

theorem RelW.mono {K : PySem.W.Frag} {Hd Hd' H H' : Hp} {io io' : List Addr} (e : Ext Hd io H Hd' io' H') {w : W} {v : V} (h : RelW K Hd io w v) : RelW K Hd' io' w v := by
  cases w with
  | d x => exact RelD.mono e.hd h
  | cell n =>
    obtain ⟨a, h1, h2⟩ := h
    obtain ⟨r, e1, _⟩ := e.pre
    refine ⟨a, h1, ?_⟩
    rw [e1, List.getElem?_append_left (List.getElem?_eq_some_iff.mp h2).1]
    exact h2
/-- the slots -/
structure RelS (K : PySem.W.Frag) (Hd : Hp) (io : List Addr) (ro : List (Option W)) (sg : L2.St) : Prop where
  len : ro.length = sg.length
  get : ∀ (i : Nat) w, ro[i]? = some (some w) → ∃ v, sg[i]? = some (some v) ∧ RelW K Hd io w v
theorem RelS.mono {K : PySem.W.Frag} {Hd Hd' H H' : Hp} {io io' : List Addr} {ro : List (Option W)} {sg : L2.St} (e : Ext Hd io H Hd' io' H') (h : RelS K Hd io ro sg) : RelS K Hd' io' ro sg :=
  ⟨h.len, fun i w q => let ⟨v, h1, h2⟩ := h.get i w q; ⟨v, h1, h2.mono e⟩⟩
theorem RelS.set {K : PySem.W.Frag} {Hd : Hp} {io : List Addr} {ro : List (Option W)} {sg : L2.St} (h : RelS K Hd io ro sg) (i : Nat) {w : W} {v : V} (r : RelW K Hd io w v) : RelS K Hd io (ro.set i (some w)) (sg.set i (some v)) := by
  refine ⟨by rw [List.length_set, List.length_set, h.len], fun j u q => ?_⟩
  by_cases hj : i = j
  · subst hj
    have hl : i < ro.length := by
      have := (List.getElem?_eq_some_iff.mp q).1
      rwa [List.length_set] at this
    rw [List.getElem?_set_self hl] at q
    cases q
    exact ⟨v, by rw [List.getElem?_set_self (by rw [← h.len]; exact hl)], r⟩
  · rw [List.getElem?_set_ne hj] at q
    obtain ⟨x, h1, h2⟩ := h.get j u q
    exact ⟨x, by rw [List.getElem?_set_ne hj]; exact h1, h2⟩
theorem RelS.setNone {K : PySem.W.Frag} {Hd : Hp} {io : List Addr} {ro : List (Option W)} {sg : L2.St} (h : RelS K Hd io ro sg) (i : Nat) : RelS K Hd io (ro.set i none) (sg.set i none) := by
  refine ⟨by rw [List.length_set, List.length_set, h.len], fun j u q => ?_⟩
  by_cases hj : i = j
  · subst hj
    have hl : i < ro.length := by
      have := (List.getElem?_eq_some_iff.mp q).1
      rwa [List.length_set] at this
    rw [List.getElem?_set_self hl] at q
    cases q
  · rw [List.getElem?_set_ne hj] at q
    obtain ⟨x, h1, h2⟩ := h.get j u q
    exact ⟨x, by rw [List.getElem?_set_ne hj]; exact h1, h2⟩
def wipeW (ro : List (Option W)) : List Nat → List (Option W)
  | [] => ro
  | v :: vs => (wipeW ro vs).set v none
theorem RelS.wipe {K : PySem.W.Frag} {Hd : Hp} {io : List Addr} {ro : List (Option W)} {sg : L2.St} (h : RelS K Hd io ro sg) : ∀ vs : List Nat, RelS K Hd io (wipeW ro vs) (L2.wipe sg vs)
  | [] => h
  | v :: vs => (RelS.wipe h vs).setNone v

/-- what an expression's result asks -/
def Post {α β : Type} (K : PySem.W.Frag) (Hd : Hp) (io : List Addr) (H : Hp) (Rel : Hp → List Addr → α → β → Prop) (Q : β → Hp → Prop) : R α → Prop
  | .ok w st' => ∀ v Hd' io' H', Ext Hd io H Hd' io' H' → Rl K Hd' io' st' H' → Rel Hd' io' w v → Q v H'
  | .exc _ _ => False
  | .bad => False
theorem Post.bind {α β γ δ : Type} {K : PySem.W.Frag} {Hd : Hp} {io : List Addr} {H : Hp} {Rel : Hp → List Addr → α → β → Prop} {Rel2 : Hp → List Addr → γ → δ → Prop} {r : R α} {f : α → Store → R γ} {Q : δ → Hp → Prop}
    {Q1 : β → Hp → Prop} (h : Post K Hd io H Rel2 Q (r.bind f))
    (k : ∀ w st1 v Hd1 io1 H1, r = .ok w st1 → Ext Hd io H Hd1 io1 H1 → Rl K Hd1 io1 st1 H1 → Rel Hd1 io1 w v → Post K Hd1 io1 H1 Rel2 Q (f w st1) → Q1 v H1) : Post K Hd io H Rel Q1 r := by
  cases r with
  | bad => exact h
  | exc x st => exact h
  | ok w st1 =>
    intro v Hd1 io1 H1 e1 l1 r1
    refine k w st1 v Hd1 io1 H1 rfl e1 l1 r1 ?_
    have h' : Post K Hd io H Rel2 Q (f w st1) := h
    cases hf : f w st1 with
    | bad => rw [hf] at h'; exact h'
    | exc x st => rw [hf] at h'; exact h'
    | ok u st2 =>
      rw [hf] at h'
      intro v2 Hd2 io2 H2 e2 l2 r2
      exact h' v2 Hd2 io2 H2 (e1.trans e2) l2 r2
/-- nothing changed -/
theorem Post.here {α β : Type} {K : PySem.W.Frag} {Hd : Hp} {io : List Addr} {H : Hp} {Rel : Hp → List Addr → α → β → Prop} {Q : β → Hp → Prop} {w : α} {st : Store} {v : β} (h : Post K Hd io H Rel Q (.ok w st)) (l : Rl K Hd io st H) (r : Rel Hd io w v) : Q v H :=
  h v Hd io H Ext.refl l r
/-- a new thing that stays -/
theorem Rl.newD {K : PySem.W.Frag} {Hd : Hp} {io : List Addr} {st : Store} {H : Hp} (l : Rl K Hd io st H) {p : Addr} (hp : H p = none) (o : HO) : Rl K (upd Hd p o) io st (upd H p o) ∧ Ext Hd io H (upd Hd p o) io (upd H p o) := by
  have hd : Hd p = none := by
    cases q : Hd p with
    | none => rfl
    | some u => rw [l.sub _ _ q] at hp; cases hp
  have np : ∀ a ∈ io, a ≠ p := fun a ha z => l.liv a ha (by rw [z]; exact hp)
  have le := Le.upd (o := o) hd
  refine ⟨⟨fun a u e => ?_, l.nd, l.len, fun n a c h1 h2 => ?_, fun a ha => by rw [upd_ne (np a ha)]; exact l.liv a ha⟩, ⟨le, fun a h1 h2 => ?_, ⟨[], by simp, by simp⟩, fun a u h _ => Le.upd hp a u h, fun a h => ?_⟩⟩
  · by_cases z : a = p
    · rw [z, upd_same] at e ⊢; exact e
    · rw [upd_ne z] at e ⊢; exact l.sub _ _ e
  · have hc := l.cel n a c h1 h2
    have na := np a (List.mem_of_getElem? h1)
    cases c with
    | lst ds =>
      obtain ⟨h3, vs, h4, h5⟩ := hc
      exact ⟨by rw [upd_ne na]; exact h3, vs, by rw [upd_ne na]; exact h4, h5.mono le⟩
    | dic kvs =>
      obtain ⟨h3, vs, h4, h5⟩ := hc
      exact ⟨by rw [upd_ne na]; exact h3, vs, by rw [upd_ne na]; exact h4, h5.mono le⟩
    | frz ds => exact RelD.mono le hc
    | obj c fs =>
      obtain ⟨h3, dx, vs, h4, h5, h6, h7, h8⟩ := hc
      have nx : dx ≠ p := fun z => by rw [z, hp] at h5; cases h5
      exact ⟨by rw [upd_ne na]; exact h3, dx, vs, by rw [upd_ne na]; exact h4, by rw [upd_ne nx]; exact h5, by rw [upd_ne nx]; exact h6, h7, h8.le le⟩
  · by_cases z : a = p
    · rw [z]; exact .inl hp
    · rw [upd_ne z] at h2; exact absurd h1 h2
  · by_cases z : a = p
    · rw [z]; exact hp
    · rw [upd_ne z] at h; exact h
theorem relD_newTup {K : PySem.W.Frag} {Hd : Hp} {p : Addr} {vs : List V} {ds : List D} (hp : Hd p = none) (r : RelDs K Hd vs ds) : RelD K (upd Hd p (.tup vs)) (.ref p) (.tup ds) :=
  .tup (.inl (.inl upd_same)) (r.mono (Le.upd hp))
theorem relD_newLst {K : PySem.W.Frag} {Hd : Hp} {p : Addr} {vs : List V} {ds : List D} (hp : Hd p = none) (r : RelDs K Hd vs ds) : RelD K (upd Hd p (.lst vs)) (.ref p) (.lst ds) :=
  .lst upd_same (r.mono (Le.upd hp))
theorem Rl.fresh {K : PySem.W.Frag} {Hd : Hp} {io : List Addr} {st : Store} {H : Hp} (l : Rl K Hd io st H) {p : Addr} (hp : H p = none) : Hd p = none := by
  cases q : Hd p with
  | none => rfl
  | some u => rw [l.sub _ _ q] at hp; cases hp
theorem Post.newTup {K : PySem.W.Frag} {Hd : Hp} {io : List Addr} {H : Hp} {Q : VK} {st : Store} {ds : List D} {vs : List V} (h : Post K Hd io H (RelW K) Q (.ok (.d (.tup ds)) st)) (l : Rl K Hd io st H) (r : RelDs K Hd vs ds) {p : Addr} (hp : H p = none) : Q (.ref p) (upd H p (.tup vs)) := by
  obtain ⟨l', e⟩ := l.newD hp (.tup vs)
  exact h _ _ _ _ e l' (relD_newTup (l.fresh hp) r)
theorem Post.newLst {K : PySem.W.Frag} {Hd : Hp} {io : List Addr} {H : Hp} {Q : VK} {st : Store} {ds : List D} {vs : List V} (h : Post K Hd io H (RelW K) Q (.ok (.d (.lst ds)) st)) (l : Rl K Hd io st H) (r : RelDs K Hd vs ds) {p : Addr} (hp : H p = none) : Q (.ref p) (upd H p (.lst vs)) := by
  obtain ⟨l', e⟩ := l.newD hp (.lst vs)
  exact h _ _ _ _ e l' (relD_newLst (l.fresh hp) r)
/-- a new cell -/
theorem Rl.newC {K : PySem.W.Frag} {Hd : Hp} {io : List Addr} {st : Store} {H : Hp} (l : Rl K Hd io st H) {p : Addr} (hp : H p = none) {o : HO} {c : Cell} (hc : CellOk K Hd (io ++ [p]) (upd H p o) p c) :
    Rl K Hd (io ++ [p]) (st ++ [c]) (upd H p o) ∧ Ext Hd io H Hd (io ++ [p]) (upd H p o) := by
  have np : ∀ a ∈ io, a ≠ p := fun a ha z => l.liv a ha (by rw [z]; exact hp)
  refine ⟨⟨l.sub.trans (Le.upd hp), ?_, by simp [l.len], fun n a c' h1 h2 => ?_, fun a ha => ?_⟩, ⟨Le.refl _, fun a h1 h2 => absurd h1 h2, ⟨[p], rfl, fun a ha => by rw [List.mem_singleton.mp ha]; exact hp⟩, fun a u h _ => Le.upd hp a u h, fun a h => ?_⟩⟩
  · refine List.nodup_append.mpr ⟨l.nd, by simp, fun a ha b hb => ?_⟩
    rw [List.mem_singleton.mp hb]; exact np a ha
  · by_cases hn : n < io.length
    · rw [List.getElem?_append_left hn] at h1
      rw [List.getElem?_append_left (by rw [← l.len]; exact hn)] at h2
      have hc := l.cel n a c' h1 h2
      have na := np a (List.mem_of_getElem? h1)
      cases c' with
      | lst ds =>
        obtain ⟨h3, vs, h4, h5⟩ := hc
        exact ⟨h3, vs, by rw [upd_ne na]; exact h4, h5⟩
      | dic kvs =>
        obtain ⟨h3, vs, h4, h5⟩ := hc
        exact ⟨h3, vs, by rw [upd_ne na]; exact h4, h5⟩
      | frz ds => exact hc
      | obj c fs =>
        obtain ⟨h3, dx, vs, h4, h5, h6, h7, h8⟩ := hc
        have nx : dx ≠ p := fun z => by rw [z, hp] at h5; cases h5
        refine ⟨h3, dx, vs, by rw [upd_ne na]; exact h4, by rw [upd_ne nx]; exact h5, h6, fun z => ?_, h8.more (Le.refl _)⟩
        rcases List.mem_append.mp z with z | z
        · exact h7 z
        · exact nx (List.mem_singleton.mp z)
    · rw [List.getElem?_append_right (by omega)] at h1
      rw [List.getElem?_append_right (by rw [← l.len]; omega)] at h2
      have e0 : n - io.length = 0 := by
        have := (List.getElem?_eq_some_iff.mp h1).1
        simp at this; omega
      rw [e0] at h1
      rw [← l.len, e0] at h2
      simp at h1 h2
      subst h1 h2
      exact hc
  · rcases List.mem_append.mp ha with z | z
    · rw [upd_ne (np a z)]; exact l.liv a z
    · rw [List.mem_singleton.mp z, upd_same]; simp
  · by_cases z : a = p
    · rw [z]; exact hp
    · rw [upd_ne z] at h; exact h
/-- a cell written -/
theorem Rl.write {K : PySem.W.Frag} {Hd : Hp} {io : List Addr} {st : Store} {H : Hp} (l : Rl K Hd io st H) {n : Nat} {p : Addr} (hp : io[n]? = some p) {o : HO} {c : Cell} (hc : CellOk K Hd io (upd H p o) p c) (hd : Hd p = none) :
    Rl K Hd io (st.set n c) (upd H p o) ∧ Ext Hd io H Hd io (upd H p o) := by
  have hm := List.mem_of_getElem? hp
  refine ⟨⟨fun a u e => ?_, l.nd, by simp [l.len], fun m a c' h1 h2 => ?_, fun a ha => ?_⟩, ⟨Le.refl _, fun a h1 h2 => absurd h1 h2, ⟨[], by simp, by simp⟩, fun a u h hn => ?_, fun a h => ?_⟩⟩
  · rw [upd_ne (fun z => by rw [z, hd] at e; cases e)]; exact l.sub _ _ e
  · by_cases hmn : n = m
    · subst hmn
      have hl : n < st.length := by rw [← l.len]; exact (List.getElem?_eq_some_iff.mp hp).1
      rw [List.getElem?_set_self hl] at h2
      cases h2
      rw [hp] at h1; cases h1
      exact hc
    · rw [List.getElem?_set_ne hmn] at h2
      have na : a ≠ p := fun z => by
        subst z
        obtain ⟨i1, e1⟩ := List.getElem?_eq_some_iff.mp hp
        obtain ⟨i2, e2⟩ := List.getElem?_eq_some_iff.mp h1
        exact hmn ((List.getElem_inj l.nd).mp (e1.trans e2.symm))
      have hc' := l.cel m a c' h1 h2
      cases c' with
      | lst ds =>
        obtain ⟨h3, vs, h4, h5⟩ := hc'
        exact ⟨h3, vs, by rw [upd_ne na]; exact h4, h5⟩
      | dic kvs =>
        obtain ⟨h3, vs, h4, h5⟩ := hc'
        exact ⟨h3, vs, by rw [upd_ne na]; exact h4, h5⟩
      | frz ds => exact hc'
      | obj c fs =>
        obtain ⟨h3, dx, vs, h4, h5, h6, h7, h8⟩ := hc'
        have nx : dx ≠ p := fun z => h7 (by rw [z]; exact hm)
        exact ⟨h3, dx, vs, by rw [upd_ne na]; exact h4, by rw [upd_ne nx]; exact h5, h6, h7, h8⟩
  · by_cases z : a = p
    · rw [z, upd_same]; simp
    · rw [upd_ne z]; exact l.liv a ha
  · rw [upd_ne (fun z => hn (by rw [z]; exact hm))]; exact h
  · by_cases z : a = p
    · rw [z, upd_same] at h; cases h
    · rw [upd_ne z] at h; exact h
theorem RelKV.parts {K : PySem.W.Frag} {H : Hp} : ∀ {vs : List (Key × V)} {kvs : List (Key × D)}, RelKV K H vs kvs → vs = (kvs.map (·.1)).zip (vs.map (·.2)) ∧ (kvs.map (·.1)).length = (vs.map (·.2)).length ∧ RelDs K H (vs.map (·.2)) (kvs.map (·.2))
  | _, _, .nil => ⟨rfl, rfl, .nil⟩
  | _, _, .cons h r => by
    obtain ⟨h1, h2, h3⟩ := RelKV.parts r
    refine ⟨?_, by simpa using h2, .cons h h3⟩
    rw [List.map_cons, List.map_cons, List.zip_cons_cons, ← h1]
/-- a growing thing frozen -/
theorem Rl.freezeG {K : PySem.W.Frag} {Hd : Hp} {io : List Addr} {st : Store} {H : Hp} (l : Rl K Hd io st H) {n : Nat} {p : Addr} {o : HO} {d : D} (hp : io[n]? = some p) (hd : Hd p = none) (hv : H p = some o) (rd : RelD K (upd Hd p o) (.ref p) d) :
    Rl K (upd Hd p o) io (st.set n (.frz d)) H ∧ Ext Hd io H (upd Hd p o) io H := by
  have hm := List.mem_of_getElem? hp
  have le := Le.upd (o := o) hd
  refine ⟨⟨fun a u e => ?_, l.nd, by simp [l.len], fun m a c' h1 h2 => ?_, l.liv⟩, ⟨le, fun a h1 h2 => ?_, ⟨[], by simp, by simp⟩, fun a u h hn => h, fun a h => h⟩⟩
  · by_cases z : a = p
    · rw [z, upd_same] at e; cases e; rw [z]; exact hv
    · rw [upd_ne z] at e; exact l.sub _ _ e
  · by_cases hmn : n = m
    · subst hmn
      have hl : n < st.length := by rw [← l.len]; exact (List.getElem?_eq_some_iff.mp hp).1
      rw [List.getElem?_set_self hl] at h2
      cases h2
      rw [hp] at h1; cases h1
      exact rd
    · rw [List.getElem?_set_ne hmn] at h2
      have na : a ≠ p := fun z => by
        subst z
        obtain ⟨i1, e1⟩ := List.getElem?_eq_some_iff.mp hp
        obtain ⟨i2, e2⟩ := List.getElem?_eq_some_iff.mp h1
        exact hmn ((List.getElem_inj l.nd).mp (e1.trans e2.symm))
      have hc' := l.cel m a c' h1 h2
      cases c' with
      | lst ds =>
        obtain ⟨h3, vs, h4, h5⟩ := hc'
        exact ⟨by rw [upd_ne na]; exact h3, vs, h4, h5.mono le⟩
      | dic kvs =>
        obtain ⟨h3, vs, h4, h5⟩ := hc'
        exact ⟨by rw [upd_ne na]; exact h3, vs, h4, h5.mono le⟩
      | frz ds => exact RelD.mono le hc'
      | obj c fs =>
        obtain ⟨h3, dx, vs, h4, h5, h6, h7, h8⟩ := hc'
        have nx : dx ≠ p := fun z => h7 (by rw [z]; exact hm)
        exact ⟨by rw [upd_ne na]; exact h3, dx, vs, h4, h5, by rw [upd_ne nx]; exact h6, h7, h8.le le⟩
  · by_cases z : a = p
    · rw [z]; exact .inr hm
    · rw [upd_ne z] at h2; exact absurd h1 h2
theorem Rl.freeze {K : PySem.W.Frag} {Hd : Hp} {io : List Addr} {st : Store} {H : Hp} (l : Rl K Hd io st H) {n : Nat} {p : Addr} {ds : List D} (hp : io[n]? = some p) (hs : st[n]? = some (.lst ds)) :
    ∃ Hd', Rl K Hd' io (st.set n (.frz (.lst ds))) H ∧ Ext Hd io H Hd' io H ∧ RelD K Hd' (.ref p) (.lst ds) := by
  obtain ⟨hd, vs, hv, r⟩ := l.cel n p _ hp hs
  have rd := relD_newLst hd r
  obtain ⟨l2, e2⟩ := l.freezeG hp hd hv rd
  exact ⟨_, l2, e2, rd⟩
theorem Rl.freezeD {K : PySem.W.Frag} {Hd : Hp} {io : List Addr} {st : Store} {H : Hp} (l : Rl K Hd io st H) {n : Nat} {p : Addr} {kvs : List (Key × D)} (hp : io[n]? = some p) (hs : st[n]? = some (.dic kvs)) :
    ∃ Hd', Rl K Hd' io (st.set n (.frz (.dic (kvs.map (·.1)) (kvs.map (·.2))))) H ∧ Ext Hd io H Hd' io H ∧ RelD K Hd' (.ref p) (.dic (kvs.map (·.1)) (kvs.map (·.2))) := by
  obtain ⟨hd, vs, hv, r⟩ := l.cel n p _ hp hs
  obtain ⟨h1, h2, h3⟩ := r.parts
  have rd : RelD K (upd Hd p (.dK vs)) (.ref p) (.dic (kvs.map (·.1)) (kvs.map (·.2))) := .dic (by rw [upd_same, ← h1]) h2 (h3.mono (Le.upd hd))
  obtain ⟨l2, e2⟩ := l.freezeG hp hd hv rd
  exact ⟨_, l2, e2, rd⟩
/-- as data that is only looked at -/
def peek (st : Store) : W → Option D
  | .d x => some x
  | .cell n => match st[n]? with
    | some (.lst ds) => some (.lst ds)
    | some (.frz d) => some d
    | _ => none
/-- as data that is kept -/
def keepD (st : Store) : W → R D
  | .d x => .ok x st
  | .cell n => match st[n]? with
    | some (.lst ds) => .ok (.lst ds) (st.set n (.frz (.lst ds)))
    | some (.dic kvs) => .ok (.dic (kvs.map (·.1)) (kvs.map (·.2))) (st.set n (.frz (.dic (kvs.map (·.1)) (kvs.map (·.2)))))
    | some (.frz d) => .ok d st
    | some (.obj _ _) => .bad
    | none => .bad
/-- v reads as d at H, what is in it stays -/
def PkD (K : PySem.W.Frag) (Hd H : Hp) (v : V) (d : D) : Prop := RelD K Hd v d ∨ ∃ a vs ds, v = .ref a ∧ d = .lst ds ∧ H a = some (.lst vs) ∧ RelDs K Hd vs ds
theorem PkD.rel {K : PySem.W.Frag} {Hd H : Hp} {v : V} {d : D} (le : Le Hd H) (h : PkD K Hd H v d) : RelD K H v d := by
  rcases h with h | ⟨a, vs, ds, rfl, rfl, h1, h2⟩
  · exact h.mono le
  · exact .lst h1 (h2.mono le)
theorem PkD.list {K : PySem.W.Frag} {Hd H : Hp} {v : V} {ds : List D} (le : Le Hd H) (h : PkD K Hd H v (.lst ds)) : ∃ a vs, v = .ref a ∧ H a = some (.lst vs) ∧ RelDs K Hd vs ds := by
  rcases h with h | ⟨a, vs, es, rfl, e, h1, h2⟩
  · cases h with
    | lst hs hr => exact ⟨_, _, rfl, le _ _ hs, hr⟩
  · cases e
    exact ⟨a, vs, rfl, h1, h2⟩
theorem PkD.tuple {K : PySem.W.Frag} {Hd H : Hp} {v : V} {ds : List D} (le : Le Hd H) (h : PkD K Hd H v (.tup ds)) : ∃ a vs, v = .ref a ∧ SqT K H a vs ∧ RelDs K Hd vs ds := by
  rcases h with h | ⟨a, vs, es, rfl, e, h1, h2⟩
  · cases h with
    | tup hs hr => exact ⟨_, _, rfl, le.sqt hs, hr⟩
  · cases e
theorem peek_ok {K : PySem.W.Frag} {Hd : Hp} {io : List Addr} {st : Store} {H : Hp} (l : Rl K Hd io st H) {w : W} {v : V} {d : D} (r : RelW K Hd io w v) (h : peek st w = some d) : PkD K Hd H v d := by
  cases w with
  | d x => cases h; exact .inl r
  | cell n =>
    obtain ⟨a, rfl, ha⟩ := r
    unfold peek at h
    dsimp only at h
    cases hs : st[n]? with
    | none => rw [hs] at h; cases h
    | some c =>
      rw [hs] at h
      have hc := l.cel n a c ha hs
      cases c with
      | lst ds =>
        cases h
        obtain ⟨_, vs, h1, h2⟩ := hc
        exact .inr ⟨a, vs, ds, rfl, rfl, h1, h2⟩
      | dic _ => cases h
      | frz ds => cases h; exact .inl hc
      | obj _ _ => cases h
def RelDv (K : PySem.W.Frag) (Hd : Hp) (_ : List Addr) (d : D) (v : V) : Prop := RelD K Hd v d
theorem keepD_ok {K : PySem.W.Frag} {Hd : Hp} {io : List Addr} {st st' : Store} {H : Hp} (l : Rl K Hd io st H) {w : W} {v : V} {d : D} (r : RelW K Hd io w v) (h : keepD st w = .ok d st') :
    ∃ Hd', Ext Hd io H Hd' io H ∧ Rl K Hd' io st' H ∧ RelD K Hd' v d := by
  cases w with
  | d x => cases h; exact ⟨Hd, Ext.refl, l, r⟩
  | cell n =>
    obtain ⟨a, rfl, ha⟩ := r
    unfold keepD at h
    dsimp only at h
    cases hs : st[n]? with
    | none => rw [hs] at h; cases h
    | some c =>
      rw [hs] at h
      cases c with
      | lst ds =>
        cases h
        obtain ⟨Hd', h2, h3, h4⟩ := l.freeze ha hs
        exact ⟨_, h3, h2, h4⟩
      | dic kvs =>
        cases h
        obtain ⟨Hd', h2, h3, h4⟩ := l.freezeD ha hs
        exact ⟨_, h3, h2, h4⟩
      | frz ds => cases h; exact ⟨Hd, Ext.refl, l, l.cel n a _ ha hs⟩
      | obj _ _ => cases h
/-- a new instance -/
theorem Rl.newX {K : PySem.W.Frag} {Hd : Hp} {io : List Addr} {st : Store} {H : Hp} (l : Rl K Hd io st H) {p : Addr} (hp : H p = none) (o : HO) : Rl K Hd io st (upd H p o) ∧ Ext Hd io H Hd io (upd H p o) := by
  have np : ∀ a ∈ io, a ≠ p := fun a ha z => l.liv a ha (by rw [z]; exact hp)
  refine ⟨⟨l.sub.trans (Le.upd hp), l.nd, l.len, fun n a c h1 h2 => ?_, fun a ha => by rw [upd_ne (np a ha)]; exact l.liv a ha⟩, ⟨Le.refl _, fun a h1 h2 => absurd h1 h2, ⟨[], by simp, by simp⟩, fun a u h _ => Le.upd hp a u h, fun a h => ?_⟩⟩
  · have hc := l.cel n a c h1 h2
    have na := np a (List.mem_of_getElem? h1)
    cases c with
    | lst ds =>
      obtain ⟨h3, vs, h4, h5⟩ := hc
      exact ⟨h3, vs, by rw [upd_ne na]; exact h4, h5⟩
    | dic kvs =>
      obtain ⟨h3, vs, h4, h5⟩ := hc
      exact ⟨h3, vs, by rw [upd_ne na]; exact h4, h5⟩
    | frz ds => exact hc
    | obj c fs =>
      obtain ⟨h3, dx, vs, h4, h5, h6, h7, h8⟩ := hc
      have nx : dx ≠ p := fun z => by rw [z, hp] at h5; cases h5
      exact ⟨h3, dx, vs, by rw [upd_ne na]; exact h4, by rw [upd_ne nx]; exact h5, h6, h7, h8⟩
  · by_cases z : a = p
    · rw [z]; exact hp
    · rw [upd_ne z] at h; exact h
theorem Rl.newO {K : PySem.W.Frag} {Hd : Hp} {io : List Addr} {st : Store} {H : Hp} (l : Rl K Hd io st H) {x dx : Addr} (c : Str) (hx : H x = none) (hd : H dx = none) (ne : dx ≠ x) :
    Rl K Hd (io ++ [x]) (st ++ [.obj c []]) (upd (upd H dx (.own x)) x (.ins (He.ga K c) dx [])) ∧ Ext Hd io H Hd (io ++ [x]) (upd (upd H dx (.own x)) x (.ins (He.ga K c) dx [])) := by
  obtain ⟨l1, e1⟩ := l.newX hd (.own x)
  have hx1 : upd H dx (.own x) x = none := by rw [upd_ne (Ne.symm ne)]; exact hx
  have hz : dx ∉ io ++ [x] := fun z => by
    rcases List.mem_append.mp z with z | z
    · exact l.liv dx z hd
    · exact ne (List.mem_singleton.mp z)
  obtain ⟨l2, e2⟩ := l1.newC (o := .ins (He.ga K c) dx []) (c := .obj c []) hx1 ⟨l.fresh hx, dx, [], upd_same, by rw [upd_ne ne, upd_same], l.fresh hd, hz, .nil⟩
  exact ⟨l2, e1.trans e2⟩
end Ev
set_option Elab.async false
set_option linter.all false
set_option maxRecDepth 100000
set_option maxHeartbeats 4000000
namespace Ev
open PySem PySem.Spec PyProof.Rows L2
/-! ### exceptions as values, tracked -/
theorem exq_ok {P : Program} {w : World} {H : Hp} {h : Heap} {a : Addr} {cls : Value} {d : Option Addr} {oe : Obj} {vs : Array Value} (e : h.get? a = some oe) (z : Zc cls d oe) (hd : oe.data = .fields vs) : ObjOk P w H h a (exq cls d a) :=
  ⟨⟨oe, vs, e, z, hd⟩, ⟨oe, e⟩, fun _ _ ⟨o, v, q, r⟩ k => ⟨o, v, k o q, r⟩⟩
theorem exq_at {P : Program} {w : World} {H : Hp} {h : Heap} {a : Addr} {cls : Value} {d : Option Addr} (hok : HOk P w H h) (e : H a = some (exq cls d a)) : ∃ oe vs, h.get? a = some oe ∧ Zc cls d oe ∧ oe.data = .fields vs := by
  have x : ObjOk P w H h a (.ext fun h => ∃ (oe : Obj) (vs : Array Value), h.get? a = some oe ∧ Zc cls d oe ∧ oe.data = .fields vs) := hok a _ e
  exact x.1
section
variable {X : Cx} {pins : List (Addr × Obj)} {σ : L2.St} {H : Hp} {s s' : Shared}
/-- the heap as it is with a new exception on it -/
theorem inv_exq {a : Addr} {oe : Obj} {vs : Array Value} {cls : Value} {d : Option Addr} (I : Inv X pins σ H s) (k : ∀ b o, s.heap.get? b = some o → s'.heap.get? b = some o) (hne : s.heap.get? a = none) (he : s'.heap.get? a = some oe) (hz : Zc cls d oe)
    (hd : oe.data = .fields vs) (na : H a = none) (os : s'.os = s.os) (ag : AllBare s'.gens) : Inv X pins σ (upd H a (exq cls d a)) s' := by
  have J := I.laidN (t' := s.toks) k hne na (exq_ok he hz hd)
  exact ⟨J.ok, os.trans J.os, ag, J.base, J.loc, J.cell, J.free, J.freeC, J.pin, J.hok, J.len⟩
theorem pe_of_mk {e : Expr} {t : L2.St → Hp → XK → Prop} (h : PMk X e t) : PE X e (fun σ H Q => t σ H fun cls d H' => ∀ a, H' a = none → Q (.ref a) (upd H' a (exq cls d a))) := by
  refine ⟨fun pins s σ H Q I q => wpAny_mono (h pins s σ H _ I q) (fun u s1 hu => ?_) fun _ _ x => x⟩
  obtain ⟨a, oe, vs, sI, H', cls, d, rfl, J, k, hne, ha, hz, hd, h1, na, os, ag, r, q⟩ := hu
  exact ⟨.ref a, _, inv_exq J k hne ha hz hd na os ag, rfl, q a na⟩
end
/-! ### an own __init__ that stores what it is handed -/
/-- what such an __init__ does -/
def spIni (K : PySem.W.Frag) (C : Addr) (fs : List Str) : Sp := fun vs H Q _ => ∃ a ys, vs = .ref a :: ys ∧ ys.length = fs.length ∧ H a = some (exo a C none) ∧
  ∀ dx H', H dx = none → dx ≠ a → H' a = some (exo a C (some dx)) → H' dx = some (exd dx (fs.zip ys).reverse) → (∀ b, b ≠ a → b ≠ dx → H' b = H b) → Q .non H'
/-- self.f = p -/
def iniS1 (self f p : Str) : Stmt → Bool
  | .Assign [.Attribute (.Name o _) g _] (.Name x _) _ => decide (o = self) && decide (g = f) && decide (x = p)
  | _ => false
/-- .. one by one -/
def iniSt (self : Str) : List Str → List Str → List Stmt → Bool
  | [], [], [] => true
  | f :: fs, p :: ps, b :: bs => iniS1 self f p b && iniSt self fs ps bs
  | _, _, _ => false
def noDoc : List Stmt → List Stmt
  | .Expr (.Constant (.str _) _ _) _ :: r => r
  | r => r
def iniBody (base self : Str) (fs ps : List Str) : List Stmt → Bool
  | .Expr (.Call (.Attribute (.Name y _) nm ap) [.Name o _, .Constant (.str _) _ _] [] cp) _ :: r => decide (y = base) && decide (nm = ("__init__" : Str)) && (ap.endLine == cp.line) && decide (o = self) && iniSt self fs ps r
  | _ => false
def namesIn (sc : Scope) (N : List Str) : Bool := N.all fun x => decide (sc.names.lookup x = some .local)
/-- what the class says -/
structure ExI (K : PySem.W.Frag) (C : Addr) (fs : List Str) : Prop where
  T : OexC K C
  no : ∀ f ∈ fs, PySem.W.findIn K (.ref C) f = some none
/-- what the class whose __init__ is called says -/
structure ExB (K : PySem.W.Frag) (L : Addr) : Prop where
  sp : PySem.W.specialIn K (.ref L) "__getattribute__" = some (some (.builtin "type.__getattribute__"))
  rd : ∃ mc, PySem.W.readsIn K L mc = true ∧ PySem.W.findCls K (.ref L) mc "__init__" = some (.val (.builtin "ValueError.__init__"))
/-- o.name(args), whatever o is -/
theorem call_attr {prog : Program} {w : World} {A : Around} {E : Value → Shared → Prop} {env : Env} {s : Shared} {o : Expr} {name : Str} {apos pos : Pos} {args : List Expr} {Q : Value → Shared → Prop}
    (hbase : attributeBase o name env (eval o env) = eval o env)
    (hfew : ((backTo pos (starEach args env)).all (fun x => !x.1) && (backToKw pos (keywordEach [] env)).all (fun x => x.1.isSome)
      && decide (args.length + ([] : List Keyword).length + (if ([] : List Keyword).isEmpty then 0 else 1) < 30)) = true)
    (hline : (apos.endLine == pos.line) = true)
    (h : wpAny (model prog w) A (eval o env) (fun ov s₁ => ∀ pl : Sem Bool, wpAny (model prog w) A (getMethod ov name pl) (fun fx s₂ => wpAny (model prog w) A (callWith pos fx.1 fx.2 (backTo pos (starEach args env)) (backToKw pos (keywordEach [] env))) Q E s₂) E s₁) E s) :
    wpAny (model prog w) A (eval (.Call (.Attribute o name apos) args [] pos) env) Q E s := by
  rw [arm_eval_Call, hbase]
  refine wpAny_bind (wpAny_mono h (fun ov s₁ h₁ => ?_) fun _ _ e => e)
  refine wpAny_bind (wpAny_standAt ?_)
  have hform : methodCallForm (args.length + ([] : List Keyword).length) (backTo pos (starEach args env)) (backToKw pos (keywordEach [] env)) = true := hfew
  have hpos : methodCallPos true o env apos pos = pure pos := by unfold methodCallPos; simp [hline]
  unfold methodCall
  rw [hform]
  refine wpAny_bind (wpAny_holding ?_)
  unfold calleeOf
  rw [if_pos rfl]
  exact wpAny_mono (h₁ _) (fun fx s₂ z => wpAny_bind (wpAny_of_eq hpos z)) fun _ _ e => e
section
variable {X : Cx} {o e : Expr} {es : List Expr} {ta : TA} {p1 p2 pos : Pos}
/-- B.__init__(self, ..), B an own class that has ValueError's -/
theorem pe_binit {x : Str} {L : Addr} (hg : Gl X x) (hm : X.mg x = some (.ref L)) (B : ExB X.K L) (ha : PA X (e :: es) ta) (hdb : (x == ("__debug__" : Str)) = false)
    (hfew : ((backTo pos (starEach (e :: es) X.env)).all (fun x => !x.1) && (backToKw pos (keywordEach [] X.env)).all (fun x => x.1.isSome)
      && decide ((e :: es).length + ([] : List Keyword).length + (if ([] : List Keyword).isEmpty then 0 else 1) < 30)) = true)
    (hline : (p2.endLine == pos.line) = true)
    (he : starEach (e :: es) X.env = (false, eval e X.env) :: starEach es X.env) (hpl : (backTo pos (starEach es X.env)).any (·.1) = false) :
    PE X (.Call (.Attribute (.Name x p1) "__init__" p2) (e :: es) [] pos) (tVeI X.K ta) := by
  refine ⟨fun pins s σ H Q I h => ?_⟩
  refine call_attr rfl hfew hline (ld_glob I hg hm (fun pl => ?_) hdb)
  obtain ⟨mc, rd, fc⟩ := B.rd
  refine PySem.W.method_cls I.kIn B.sp (PySem.W.cls_value I.kIn rd fc (by decide +kernel) ?_)
  show wpAny _ _ (callWith pos (Value.builtin "ValueError.__init__") [] (backTo pos (starEach (e :: es) X.env)) []) _ _ _
  refine PyProof.Rows.callWith_method1 (thn (ha.run pos pins _ σ H _ (I.tok _) h) fun us s1 ⟨vs, H1, I1, r1, a, C, ws, ev, hl, T, ea, q⟩ => ?_) he hpl
  subst ev
  cases r1 with
  | @cons _ u0 _ ur ra rw' =>
    obtain rfl : u0 = Value.ref a := ra
    have hlen : ur.length ≤ sizeLine := by
      rw [← Paired.length rw', sizeLine_eq]
      omega
    exact oinit_ok T I1 ea hlen fun s' J => ⟨.non, H1, J, rfl, q⟩
/-- the slot of a name -/
def SlO (X : Cx) (σ : L2.St) (x : Str) (v : V) : Prop := ∃ i : Nat, X.N[i]? = some x ∧ Vis X.env.scope x ∧ (x == ("__debug__" : Str)) = false ∧ (x == ("__classdict__" : Str)) = false ∧ σ[i]? = some (some v)
def SlN (X : Cx) (x : Str) : Prop := ∃ i : Nat, X.N[i]? = some x ∧ Vis X.env.scope x ∧ (x == ("__debug__" : Str)) = false ∧ (x == ("__classdict__" : Str)) = false
def tNm (X : Cx) (x : Str) : TE := fun σ H Q => ∃ v, SlO X σ x v ∧ Q v H
theorem pe_nm {x : Str} (hN : X.N.Nodup) (h : SlN X x) : PE X (.Name x pos) (tNm X x) := by
  obtain ⟨i, h1, h2, h3, h4⟩ := h
  refine ⟨fun pins s σ H Q I ⟨v, ⟨j, k1, _, _, _, k5⟩, q⟩ => ?_⟩
  have : i = j := by
    obtain ⟨l1, e1⟩ := List.getElem?_eq_some_iff.mp h1
    obtain ⟨l2, e2⟩ := List.getElem?_eq_some_iff.mp k1
    exact (List.getElem_inj hN).mp (e1.trans e2.symm)
  subst this
  exact (pe_var h1 h2 h3 h4).run pins s σ H Q I ⟨v, k5, q⟩
theorem swaps_name {x : Str} {p : Pos} {t : Option Expr} {l : Nat} {env : Env} : swapsWith (.Name x p) t l env = pure false := rfl
theorem ini_1 {self f p : Str} {b : Stmt} (h : iniS1 self f p b = true) (hN : X.N.Nodup) (hs : SlN X self) (hp : SlN X p) : PS X b (tOst X.K f (tNm X self) (tNm X p)) := by
  unfold iniS1 at h
  split at h
  · simp only [Bool.and_eq_true, decide_eq_true_eq] at h
    obtain ⟨⟨rfl, rfl⟩, rfl⟩ := h
    exact ps_ost (pe_nm hN hs) (pe_nm hN hp) swaps_name
  · cases h
/-- self.f = p, one by one, behind the first one -/
theorem pss_ini {C : Addr} {self : Str} (T : OexC X.K C) (hN : X.N.Nodup) (hs : SlN X self) : ∀ (fs ps : List Str) (body : List Stmt), iniSt self fs ps body = true → (∀ p ∈ ps, SlN X p) → (∀ f ∈ fs, PySem.W.findIn X.K (.ref C) f = some none) →
    PSs X body (fun D σ H => ∃ a dx fs0 ys, SlO X σ self (.ref a) ∧ Paired (SlO X σ) ps ys ∧ H a = some (exo a C (some dx)) ∧ H dx = some (exd dx fs0) ∧ dx ≠ a ∧ fs0.length + fs.length ≤ 900 ∧
      ∀ H', H' a = some (exo a C (some dx)) → H' dx = some (exd dx ((fs.zip ys).reverse ++ fs0)) → (∀ b, b ≠ a → b ≠ dx → H' b = H b) → D.nx σ H')
  | [], [], [], h, _, _ => ⟨fun pins s σ H D I ⟨a, dx, fs0, ys, _, _, h1, h2, _, _, q⟩ => pss_nil.run pins s σ H D I (q H h1 (by simpa using h2) fun _ _ _ => rfl)⟩
  | [], _ :: _, _, h, _, _ => by simp [iniSt] at h
  | [], [], _ :: _, h, _, _ => by simp [iniSt] at h
  | f :: fs, [], body, h, _, _ => by simp [iniSt] at h
  | f :: fs, p :: ps, [], h, _, _ => by simp [iniSt] at h
  | f :: fs, p :: ps, b :: bs, h, hp, hf => by
    simp only [iniSt, Bool.and_eq_true] at h
    have h1 := ini_1 h.1 hN hs (hp p (by simp))
    have h2 := pss_ini T hN hs fs ps bs h.2 (fun x hx => hp x (by simp [hx])) (fun x hx => hf x (by simp [hx]))
    refine ⟨fun pins s σ H D I ⟨a, dx, fs0, ys, s1, s2, e1, e2, ne, hl, q⟩ => (pss_cons h1 h2).run pins s σ H D I ?_⟩
    cases s2 with
    | @cons _ y _ ys sy sr =>
      refine ⟨y, sy, .ref a, s1, a, C, rfl, T, hf f (by simp), .inr ⟨dx, fs0, e1, e2, by simp only [List.length_cons] at hl; omega, ?_⟩⟩
      refine ⟨a, dx, (f, y) :: fs0, ys, s1, sr, by rw [upd_ne (Ne.symm ne)]; exact e1, upd_same, ne, by simp only [List.length_cons] at hl ⊢; omega, fun H' k1 k2 k3 => ?_⟩
      refine q H' k1 (by rw [k2]; simp) fun b b1 b2 => by rw [k3 b b1 b2, upd_ne b2]
theorem noStar_name {x : Str} {p : Pos} {es : List Expr} {env : Env} : starEach (.Name x p :: es) env = (false, eval (.Name x p) env) :: starEach es env := rfl
theorem pss_iniB {C L : Addr} {base self f p : Str} {fs ps : List Str} {body : List Stmt} (T : OexC X.K C) (B : ExB X.K L) (hg : Gl X base) (hm : X.mg base = some (.ref L)) (hdb : (base == ("__debug__" : Str)) = false) (hN : X.N.Nodup) (hs : SlN X self)
    (h : iniBody base self (f :: fs) (p :: ps) body = true) (hp : ∀ x ∈ p :: ps, SlN X x) (hf : ∀ x ∈ f :: fs, PySem.W.findIn X.K (.ref C) x = some none) (hl : fs.length ≤ 800) :
    PSs X body (fun D σ H => ∃ a ys, SlO X σ self (.ref a) ∧ Paired (SlO X σ) (p :: ps) ys ∧ H a = some (exo a C none) ∧
      ∀ dx H', H dx = none → dx ≠ a → H' a = some (exo a C (some dx)) → H' dx = some (exd dx ((f :: fs).zip ys).reverse) → (∀ b, b ≠ a → b ≠ dx → H' b = H b) → D.nx σ H') := by
  unfold iniBody at h
  split at h
  · rename_i y p1 nm ap o p3 z k p4 cp p5 r
    simp only [Bool.and_eq_true, decide_eq_true_eq] at h
    obtain ⟨⟨⟨⟨rfl, rfl⟩, hline⟩, rfl⟩, h⟩ := h
    cases r with
    | nil => simp [iniSt] at h
    | cons b bs =>
      simp only [iniSt, Bool.and_eq_true] at h
      have e0 := pe_binit (X := X) (p1 := p1) (p2 := ap) (pos := cp) hg hm B (e := .Name o p3) (es := [.Constant (.str z) k p4]) (pa_cons (pe_nm (pos := p3) hN hs) (pa_cons (pe_str (x := z) (j := k) (pos := p4)) pa_nil) noStar_name) hdb (by rfl) hline noStar_name (by rfl)
      have h1 := ini_1 h.1 hN hs (hp p (by simp))
      have h2 := pss_ini T hN hs fs ps bs h.2 (fun x hx => hp x (by simp [hx])) (fun x hx => hf x (by simp [hx]))
      refine ⟨fun pins s σ H D I ⟨a, ys, s1, s2, e1, q⟩ => (pss_cons (ps_expr e0 (by rfl)) (pss_cons h1 h2)).run pins s σ H D I ?_⟩
      cases s2 with
      | @cons _ y _ ys sy sr =>
        refine ⟨.ref a, s1, ?_⟩
        refine ⟨a, C, [.str z], rfl, by simp, T, e1, ?_⟩
        refine ⟨y, sy, .ref a, s1, a, C, rfl, T, hf f (by simp), .inl ⟨e1, fun dx n ne => ?_⟩⟩
        refine ⟨a, dx, [(f, y)], ys, s1, sr, upd_same, by rw [upd_ne ne, upd_same], ne, by simp; omega, fun H' k1 k2 k3 => ?_⟩
        refine q dx H' n ne k1 (by rw [k2]; simp) fun b b1 b2 => by rw [k3 b b1 b2, upd_ne b1, upd_ne b2]
  · cases h
end
end Ev
set_option Elab.async false
set_option linter.all false
set_option maxRecDepth 100000
set_option maxHeartbeats 4000000
namespace Ev
open PySem PySem.Spec PyProof.Rows L2
section
variable {X : Cx} {pins : List (Addr × Obj)} {σ : L2.St} {H : Hp} {s : Shared}
/-- an object that is there, new since the def began, is tracked -/
theorem inv_track {a : Addr} {oe : Obj} {vs : Array Value} {cls : Value} {d : Option Addr} (I : Inv X pins σ H s) (he : s.heap.get? a = some oe) (hz : Zc cls d oe) (hd : oe.data = .fields vs) (na : H a = none) (h0 : X.s_0.heap.get? a = none) (nL : a ≠ X.env.locals)
    (np : ∀ p ∈ X.pn ++ pins, p.1 ≠ a) : Inv X pins σ (upd H a (exq cls d a)) s := by
  have ne : ∀ {b : Addr} {o : HO}, H b = some o → b ≠ a := fun {b o} e z => by rw [z, na] at e; cases e
  refine ⟨I.ok, I.os, I.bare, ⟨I.base.keep, I.base.slot, fun b o e n hx => ?_, I.base.there, fun b xs e => ?_, fun b o u e => ?_, fun b ps e => ?_⟩, I.loc, I.cell, ?_, fun x c e => ?_, fun p hp => ?_, fun b o e => ?_, I.len⟩
  · have hb : b ≠ a := fun z => by rw [z, h0] at e; cases e
    rw [upd_ne hb]; exact I.base.free b o e n hx
  · have q := I.base.tups b xs e; rw [upd_ne (ne q)]; exact q
  · have q := I.base.frzs b o u e; rw [upd_ne (ne q)]; exact q
  · obtain ⟨m, q⟩ := I.base.tbls b ps e; exact ⟨m, by rw [upd_ne (ne q)]; exact q⟩
  · rw [upd_ne (Ne.symm nL)]; exact I.free
  · have hc : c ≠ a := fun z => by
      obtain ⟨v, o, ho, hdv⟩ := I.cell x c e
      rw [z, he] at ho; cases ho
      rw [hd] at hdv; cases hdv
    rw [upd_ne hc]; exact I.freeC x c e
  · obtain ⟨e, n, q⟩ := I.pin p hp
    exact ⟨e, by rw [upd_ne (np p hp)]; exact n, q⟩
  · by_cases hb : b = a
    · subst hb
      rw [upd_same] at e; cases e
      exact exq_ok he hz hd
    · rw [upd_ne hb] at e
      exact (I.hok b o e).stay (fun c v _ q => q) (fun c q => by rw [upd_ne (ne q)]; exact q) fun c xs q => by rw [upd_ne (ne q)]; exact q
theorem inv_suite {a : Addr} {xs : List (Addr × Obj)} (I : Inv X pins σ H s) : Inv (X.suite a (X.pn ++ pins)) [] σ H s :=
  ⟨I.ok.suite _ _, I.os, I.bare, I.base, I.loc, I.cell, I.free, I.freeC, fun p hp => I.pin p (by rw [List.append_nil] at hp; exact hp), I.hok, I.len⟩
theorem inv_unsuite {a : Addr} {pn' : List (Addr × Obj)} (I : Inv (X.suite a (X.pn ++ pins)) pn' σ H s) (ok : X.Ok) : Inv X pins σ H s :=
  ⟨ok, I.os, I.bare, I.base, I.loc, I.cell, I.free, I.freeC, fun p hp => I.pin p (List.mem_append_left _ hp), I.hok, I.len⟩
end
/-- what 'except x as n' wishes, the exception tracked -/
def wAsV (K : PySem.W.Frag) (c : Value) (i : Nat) (ts : TS) (Wout : WX) (D : Ends) : WX := fun cls d σ H =>
  ∃ b, PySem.W.exmOne K cls c = some b ∧ (b = true → ∀ a, H a = none → ts { nx := fun σ' H' => D.nx (σ'.set i none) H', rt := D.rt, bk := fun σ' H' => D.bk (σ'.set i none) H', ct := fun σ' H' => D.ct (σ'.set i none) H' } (σ.set i (some (.ref a))) (upd H a (exq cls d a))) ∧
    (b = false → Wout cls d σ H)
section
variable {X : Cx} {x n : Str} {c : Value} {i : Nat} {body suite : List Stmt} {b₀ : Stmt} {np pos pos' : Pos} {tb : WX → TS} {ts : TS} {Wout : WX}
theorem ps_try_v (hs : X.stack = X.env :: X.outer) (hf : X.env.frame = some X.env.locals) (hex : X.ex = []) (hN : X.N.Nodup) (hi : X.N[i]? = some n) (hln : X.env.kindOf n = some .local) (hc : Names X x c) (tk : Takes X Wout)
    (hb : ∀ (W : WX) (pn : List (Addr × Obj)) (xe : Value → Shared → Prop), Takes (X.tr pn xe) W → PassesOwn (model X.prog X.w) X.A X.env xe → PSs (X.tr pn xe) body (tb W))
    (hsu : ∀ (a : Addr) (pn : List (Addr × Obj)), PSs (X.suite a pn) (b₀ :: suite) ts) :
    PS X (.Try body [.ExceptHandler (some (.Name x np)) (some n) (b₀ :: suite) pos'] [] [] pos) (fun D σ H => tb (wAsV X.K c i ts Wout D) D σ H) := by
  refine ⟨fun pins s σ H D I h => ?_⟩
  have ok := I.ok
  have hfr : X.A.frames = some (X.env :: X.outer) := by rw [ok.frames, hs]
  have hloc : L2.Loc X.env.scope n := .inl hln
  refine wpAny_Try_except ?_
  refine wpAny_mono ((hb (wAsV X.K c i ts Wout D) (X.pn ++ pins) (fun e s₁ => wpAny (model X.prog X.w) X.A (noteFrame e X.env) (fun _ s₂ => wpAny (model X.prog X.w) X.A (setFlight e none) (fun _ s₃ =>
    wpAny (model X.prog X.w) X.A (handleBy e X.env [.ExceptHandler (some (.Name x np)) (some n) (b₀ :: suite) pos']) (SP X pins D) X.xe s₃) X.xe s₂) X.xe s₁) (fun u s' xx => ?_) PassesOwn.looking).run [] s σ H D (I.toTry _) h) (fun f s1 hsp => ?_) (fun e s1 he => he)
  · obtain ⟨a, B, sI, pins', σ', H', cls, d, rfl, J', nb, up, sky, na, os, ag, b, hb1, hyes, hno⟩ := xx
    have J : Inv X pins σ' H' sI := J'.ofTry ok
    have sky' : Sky B (X.env :: X.outer) a (Zc cls d) X.env.locals s'.heap := by rw [← hs]; exact sky
    show wpAny (model X.prog X.w) X.A (noteFrame (.ref a) X.env) _ _ _
    refine Sky.land Zc.steady hfr hf sky' fun h3 fl3 up3 => ?_
    have J3 : Inv X pins σ' H' { s' with heap := h3 } := J.landed nb fl3.1 (up.trans up3) os ag
    obtain ⟨oe3, vs3, he3, hz3, hd3⟩ := fl3.there
    have notFr : ∀ {h : Heap} {o : Obj} {vs : Array Value}, h.FunFrames B (X.env :: X.outer) → h.get? a = some o → o.data = .fields vs → a ∉ frs (X.env :: X.outer) := fun {h o vs} ff e dd hm => by
      obtain ⟨_, o', e', hnf⟩ := ff.mem hm
      rw [e] at e'; cases e'
      exact hnf _ dd
    have nfr := notFr fl3.2.2.1 he3 hd3
    have nL : a ≠ X.env.locals := fun z => nfr (List.mem_filterMap.mpr ⟨X.env, List.mem_cons_self, by rw [hf, z]⟩)
    have nF : a ∉ X.fs := fun hm => by
      obtain ⟨e, he, q⟩ := List.mem_filterMap.mp hm
      exact nfr (List.mem_filterMap.mpr ⟨e, List.mem_cons_of_mem _ he, q⟩)
    have nstk : a ∉ frs X.stack := by rw [hs]; exact nfr
    have gone : sI.heap.get? a = none := by
      cases e : sI.heap.get? a with
      | none => rfl
      | some o =>
        have z := nb a o e nstk
        rw [fl3.2.1] at z; cases z
    have h0 : X.s_0.heap.get? a = none := by
      cases e : X.s_0.heap.get? a with
      | none => rfl
      | some o =>
        obtain ⟨o', z⟩ := J.base.there a o e (by rw [hex]; exact fun z => nomatch z)
        rw [gone] at z; cases z
    have np' : ∀ p ∈ X.pn ++ pins, p.1 ≠ a := fun p hp z => by
      obtain ⟨e, _⟩ := J.pin p hp
      rw [z, gone] at e; cases e
    have S3 := J3.suite he3 hd3 na nL nF
    refine wpAny_handleBy_cons (codeAny_handlers_test ?_) (by intro q; cases q)
    have LT : PySem.W.Looks (model X.prog X.w) h3 (typeOf (.ref a)) cls := fun A Q E s k q => wpAny_typeOf_ref (k _ _ he3) (by rw [hz3.1]; exact q)
    have LM := PySem.W.exm_one (M := model X.prog X.w) (J3.kIn) LT hb1
    have test : ∀ {Q : Value → Shared → Prop} {E : Value → Shared → Prop}, Q c { s' with heap := h3 } → wpAny (model X.prog X.w) (X.A.mark (some (.ref a))) (eval (.Name x np) X.env) Q E { s' with heap := h3 } := fun {Q E} q => by
      obtain ⟨hg, hdbg, hm | ⟨hm, hv, hnn⟩⟩ := hc
      · exact ld_glob (X := X.suite a ((a, oe3) :: (X.pn ++ pins))) S3 hg hm q hdbg
      · exact ld_blt (X := X.suite a ((a, oe3) :: (X.pn ++ pins))) S3 hg hm hv q hnn hdbg
    refine test (LM.here ?_)
    cases b with
    | true =>
      refine codeAny_handlers_suite_as ?_
      refine HandSPX.lands_againZ fl3 fun h4 fl4 up4 => ?_
      have J4 : Inv X pins σ' H' { s' with heap := h4 } := J.landed nb fl4.1 ((up.trans up3).trans up4) os ag
      obtain ⟨oe4, vs4, he4, hz4, hd4⟩ := fl4.there
      have S4 := inv_suite (a := a) (xs := []) (inv_track J4 he4 hz4 hd4 na h0 nL np')
      refine store_ok (X := X.suite a (X.pn ++ pins)) (v := .ref a) S4 hN hi hloc rfl (fun s5 S5 => ?_) (.inr hln)
      refine wpAny_mono ((hsu a (X.pn ++ pins)).run [] s5 _ _ _ S5 (hyes rfl a na)) (fun f s6 hsp => ?_) (fun _ _ z => False.elim z)
      have end_ : ∀ {σ6 : L2.St} {H6 : Hp} {Q : Shared → Prop}, Inv (X.suite a (X.pn ++ pins)) [] σ6 H6 s6 → (∀ s7, Inv X pins (σ6.set i none) H6 s7 → Q s7) →
          wpAny (model X.prog X.w) X.A (do bindName X.env n .none; unbindBehindTheSuite X.env n pos') (fun _ s7 => Q s7) X.xe s6 := fun {σ6 H6 Q} S6 hq => gone_ok (inv_unsuite S6 ok) hN hi hln hq
      cases f with
      | next =>
        obtain ⟨σ6, H6, S6, q6⟩ := hsp
        exact end_ S6 fun s7 J7 => ⟨_, _, J7, q6⟩
      | brk =>
        obtain ⟨σ6, H6, S6, q6⟩ := hsp
        exact end_ S6 fun s7 J7 => ⟨_, _, J7, q6⟩
      | cont =>
        obtain ⟨σ6, H6, S6, q6⟩ := hsp
        exact end_ S6 fun s7 J7 => ⟨_, _, J7, q6⟩
      | ret u =>
        obtain ⟨v6, σ6, H6, S6, r6, q6⟩ := hsp
        exact end_ S6 fun s7 J7 => ⟨_, _, _, J7, r6, q6⟩
    | false =>
      show wpAny _ X.A (handleBy (.ref a) X.env []) _ _ _
      refine wpAny_handleBy_nil ?_
      obtain ⟨k1, k2, k3, oe, vs, T, oT, ts', he, hz, hd, h1, hr⟩ := id fl3
      unfold PySem.passOn
      refine wpAny_bind (wpAny_field he hd h1 ?_)
      rw [if_neg (show ¬ ((Value.ref T == Value.none) = true) from by simp)]
      have fin : wpAny (model X.prog X.w) X.A (setFlight (.ref a) X.env.frame) (fun _ s4 => wpAny (model X.prog X.w) X.A (throw (.ref a) : Sem Flow) (SP X pins D) X.xe s4) X.xe { s' with heap := h3 } := by
        rw [hf]
        refine HandSPX.setFlight_upZ fl3 fun h4 hh4 up4 => wpAny_throw (tk _ _ ?_)
        exact ⟨a, B, sI, pins, σ', H', cls, d, rfl, J, nb, (up.trans up3).trans up4, .inr (.inr (by rw [hs]; exact hh4)), na, os, ag, hno rfl⟩
      first
        | exact wpAny_bind (wpAny_pure (wpAny_bind fin))
        | exact wpAny_bind fin
  · cases f with
    | next =>
      obtain ⟨σ', H', J', q⟩ := hsp
      exact wpAny_execs_nil ⟨σ', H', J'.ofTry ok, q⟩
    | brk =>
      obtain ⟨σ', H', J', q⟩ := hsp
      exact ⟨σ', H', J'.ofTry ok, q⟩
    | cont =>
      obtain ⟨σ', H', J', q⟩ := hsp
      exact ⟨σ', H', J'.ofTry ok, q⟩
    | ret u =>
      obtain ⟨v, σ', H', J', r, q⟩ := hsp
      exact ⟨v, σ', H', J'.ofTry ok, r, q⟩
end
/-! ### what classes of exceptions say -/
inductive Mk where
  /-- without own __init__ -/
  | own
  /-- its __init__ stores what it is handed -/
  | ini (f : Str) (fs : List Str)
def MkOk (P : Program) (w : World) (K : PySem.W.Frag) (mg : Str → Option Value) (base : Heap) (c : Str) : Mk → Prop
  | .own => PySem.W.excIn K (He.ga K c) He.veBase "ValueError.__new__" = true ∧ PySem.W.keepIn K (.ref (He.ga K c)) = true ∧ PySem.W.subIn K (.ref (He.ga K c)) (.type "BaseException") = some true ∧ PySem.W.typeIn K (.ref (He.ga K c)) = some (.type "type") ∧ mg c = some (.ref (He.ga K c))
  | .ini f fs => OexC K (He.ga K c) ∧ mg c = some (.ref (He.ga K c)) ∧ ∃ fI fd ps, PySem.W.findIn K (.ref (He.ga K c)) "__init__" = some (some (.ref fI)) ∧ PySem.W.typeIn K (.ref fI) = some (.type "function") ∧
      FnOk P w K mg base (L2.CX P w) 1 fI fd ps (spIni K (He.ga K c) (f :: fs)) ∧ L2.Binds K fd ps []
section
variable {X : Cx} {x : Str} {e : Expr} {es : List Expr} {ta : TA} {p pos : Pos}
theorem pmk_own0 (mono : ∀ σ H Q Q', ta σ H Q → (∀ vs H1, Q vs H1 → Q' vs H1) → ta σ H Q') (M : MkOk X.prog X.w X.K X.mg X.base x .own) (hg : Gl X x) (ha : PA X (e :: es) ta) (hdb : (x == ("__debug__" : Str)) = false)
    (he : starEach (e :: es) X.env = (false, eval e X.env) :: starEach es X.env) (hpl : (backTo pos (starEach es X.env)).any (·.1) = false) :
    PMk X (.Call (.Name x p) (e :: es) [] pos) (fun σ H Q => ta σ H fun vs H1 => vs.length ≤ 1000 ∧ Q (.ref (He.ga X.K x)) none H1) := by
  obtain ⟨m1, m2, m3, m4, m5⟩ := M
  intro pins s σ H Q I h
  refine pmk_ownA (t := ta) (bmB := He.veBase) PySem.F.excBase_ValueError m1 m5 m2 (raises_own m3 m4) hg ha hdb he hpl pins s σ H Q I (mono σ H _ _ h fun vs H1 ⟨hl, q⟩ => ⟨by rw [sizeLine_eq]; omega, q⟩)
/-- C(e, ..): its fields are what it is handed, in this order -/
theorem pmk_ini {f : Str} {fs : List Str} (mono : ∀ σ H Q Q', ta σ H Q → (∀ vs H1, Q vs H1 → Q' vs H1) → ta σ H Q') (M : MkOk X.prog X.w X.K X.mg X.base x (.ini f fs)) (hr : Room 2 X.A) (hg : Gl X x) (ha : PA X (e :: es) ta) (hdb : (x == ("__debug__" : Str)) = false)
    (he : starEach (e :: es) X.env = (false, eval e X.env) :: starEach es X.env) (hpl : (backTo pos (starEach es X.env)).any (·.1) = false) :
    PMk X (.Call (.Name x p) (e :: es) [] pos) (fun σ H Q => ta σ H fun vs H1 => vs.length ≤ 1000 ∧ vs.length = (f :: fs).length ∧ ∀ d, H1 d = none → Q (.ref (He.ga X.K x)) (some d) (upd H1 d (.xd ((f :: fs).zip vs).reverse))) := by
  obtain ⟨T, hm, fI, fd, ps, m1, m2, F, hb⟩ := M
  intro pins s σ H Q I h
  refine pmk_oex (ta := ta) (ds := []) (dvs := []) T m1 m2 F hr hb .nil ?_ hg hm ha hdb he hpl pins s σ H Q I (mono σ H _ _ h fun vs H1 ⟨hl, hn, q⟩ => ⟨hl, fun a na => ?_⟩)
  · exact fun pins σ H s e s' I c => by
      obtain ⟨_, _, _, _, _, _, _, _, _, _, _, _, z⟩ := c
      exact z.elim
  · refine ⟨a, vs ++ [], rfl, by rw [List.append_nil]; exact hn, upd_same, fun dx H' n1 n2 e1 e2 e3 => ⟨rfl, dx, _, e1, e2, by rw [upd_ne n2] at n1; exact n1, ?_⟩⟩
    rw [upd_ne n2] at n1
    have z : upd (L2.del H' a) dx (.xd ((f :: fs).zip (vs ++ [])).reverse) = upd H1 dx (.xd ((f :: fs).zip vs).reverse) := by
      funext b
      by_cases hb : b = dx
      · subst hb; rw [upd_same, upd_same, List.append_nil]
      · rw [upd_ne hb, upd_ne hb]
        by_cases hba : b = a
        · subst hba; rw [L2.del_same, na]
        · rw [L2.del_ne hba, e3 b hba hb, upd_ne hba]
    rw [z]
    exact q dx n1
end
/-! ### such an __init__'s promise -/
theorem fn_ini {P : Program} {w : World} {K : PySem.W.Frag} {mg : Str → Option Value} {base : Heap} {x qual : Str} {params : Arguments} {body : List Stmt} {scope : Scope} {fI : Addr} {fd : FuncData} {C L : Addr} {bs self f p : Str} {fs ps : List Str}
    (F : FunD K x qual params body scope [] [] fI fd) (Sc : FnScope (self :: p :: ps) (self :: p :: ps) scope) (T : OexC K C) (B : ExB K L) (hg : scope.names.lookup bs = some .globalImplicit) (hm : mg bs = some (.ref L)) (hdb : (bs == ("__debug__" : Str)) = false)
    (h : iniBody bs self (f :: fs) (p :: ps) body = true) (hv : ∀ x ∈ self :: p :: ps, scope.names.lookup x = some .local ∧ (x == ("__debug__" : Str)) = false ∧ (x == ("__classdict__" : Str)) = false) (hf : ∀ x ∈ f :: fs, PySem.W.findIn K (.ref C) x = some none) (hl : fs.length ≤ 800) (hle : fs.length = ps.length) :
    FnOk P w K mg base (L2.CX P w) 1 fI fd (self :: p :: ps) (spIni K C (f :: fs)) := by
  refine F.ok Sc (fun vs H Q E ⟨a, ys, e1, e2, _⟩ => by rw [e1]; simp [e2, hle]) fun cdv A outer s H vs Q E hr ⟨a, ys, e1, e2, e3, q⟩ => ?_
  subst e1
  have nm : ∀ y ∈ self :: p :: ps, ∀ (X : Cx), X.N = self :: p :: ps → X.env.scope = scope → SlN X y := fun y hy X hN hs => by
    obtain ⟨i, hi, hiy⟩ := List.mem_iff_getElem.mp hy
    exact ⟨i, by rw [hN, List.getElem?_eq_getElem hi, hiy], .inl (by rw [hs]; exact (hv y hy).1), (hv y hy).2.1, (hv y hy).2.2⟩
  refine ⟨_, pss_iniB (X := cxOf (L2.CX P w) P w K mg base (self :: p :: ps) qual scope fI cdv A outer s H E) T B hg hm hdb Sc.nd (nm self (by simp) _ rfl rfl) h (fun y hy => nm y (by simp only [List.mem_cons] at hy ⊢; exact .inr hy) _ rfl rfl) hf hl, ?_⟩
  have sl : ∀ (i : Nat) y v, (self :: p :: ps)[i]? = some y → (V.ref a :: ys)[i]? = some v → SlO (cxOf (L2.CX P w) P w K mg base (self :: p :: ps) qual scope fI cdv A outer s H E) (L2.start (self :: p :: ps) (V.ref a :: ys)) y v := fun i y v h1 h2 => by
    have hy := List.mem_of_getElem? h1
    refine ⟨i, h1, .inl (hv y hy).1, (hv y hy).2.1, (hv y hy).2.2, ?_⟩
    unfold L2.start
    have hi : i < (V.ref a :: ys).length := (List.getElem?_eq_some_iff.mp h2).1
    rw [List.getElem?_append_left (by rw [List.length_map]; exact hi), List.getElem?_map, h2]; rfl
  have pr : ∀ (j : Nat) (qs : List Str) (zs : List V), qs.length = zs.length → (∀ (i : Nat) y v, qs[i]? = some y → zs[i]? = some v → (self :: p :: ps)[j + i]? = some y ∧ (V.ref a :: ys)[j + i]? = some v) → Paired (SlO (cxOf (L2.CX P w) P w K mg base (self :: p :: ps) qual scope fI cdv A outer s H E) (L2.start (self :: p :: ps) (V.ref a :: ys))) qs zs := by
    intro j qs
    induction qs generalizing j with
    | nil => intro zs hz _; cases zs with
      | nil => exact .nil
      | cons _ _ => cases hz
    | cons y qs ih =>
      intro zs hz hh
      cases zs with
      | nil => cases hz
      | cons z zs =>
        obtain ⟨k1, k2⟩ := hh 0 y z rfl rfl
        exact .cons (sl j y z k1 k2) (ih (j + 1) zs (by simpa using hz) fun i y' v' h1 h2 => by
          obtain ⟨l1, l2⟩ := hh (i + 1) y' v' (by simpa using h1) (by simpa using h2)
          rw [Nat.add_assoc, Nat.add_comm 1 i]
          exact ⟨l1, l2⟩)
  refine ⟨a, ys, sl 0 _ _ rfl rfl, pr 1 (p :: ps) ys (by rw [e2]; simp [hle]) (fun i y v h1 h2 => by
    rw [Nat.add_comm]
    exact ⟨h1, h2⟩), e3, fun dx H' n1 n2 k1 k2 k3 => q dx H' n1 n2 k1 k2 k3⟩
end Ev
set_option Elab.async false
set_option linter.all false
set_option maxRecDepth 100000
set_option maxHeartbeats 4000000
namespace Ev
open PySem PySem.Spec PyProof.Rows L2
/-- what a class of exceptions must say, so that its instances are looked at rightly -/
structure ExC (K : PySem.W.Frag) (D : Addr) : Prop where
  hg : PySem.W.findIn K (.ref D) "__getattribute__" = some (some (.builtin "BaseException.__getattribute__"))
  hk : PySem.W.findIn K (.ref D) "__getattr__" = some none
  hs : PySem.W.subIn K (.ref D) (.type "BaseException") = some true
  hd : PySem.W.hasDictIn K D = true
  ha : PySem.W.findIn K (.ref D) "__class__" = some (some (.builtin "object.__class__"))
  hn : PySem.W.specialIn K (.builtin "object.__class__") "__get__" = some (some (.builtin "getset_descriptor.__get__"))
  ht : PySem.W.takesIn K (.builtin "object.__class__") = some true
  hm : PySem.W.mroIn K D (.type "object") = some true
def exCB (K : PySem.W.Frag) (D : Addr) : Bool :=
  decide (PySem.W.findIn K (.ref D) "__getattribute__" = some (some (.builtin "BaseException.__getattribute__"))) && (decide (PySem.W.findIn K (.ref D) "__getattr__" = some none) && (decide (PySem.W.subIn K (.ref D) (.type "BaseException") = some true) && (PySem.W.hasDictIn K D &&
    (decide (PySem.W.findIn K (.ref D) "__class__" = some (some (.builtin "object.__class__"))) && (decide (PySem.W.specialIn K (.builtin "object.__class__") "__get__" = some (some (.builtin "getset_descriptor.__get__"))) && (decide (PySem.W.takesIn K (.builtin "object.__class__") = some true) && decide (PySem.W.mroIn K D (.type "object") = some true)))))))
theorem exCB_ok {K : PySem.W.Frag} {D : Addr} (h : exCB K D = true) : ExC K D := by
  unfold exCB at h
  simp only [Bool.and_eq_true, decide_eq_true_eq] at h
  exact ⟨h.1, h.2.1, h.2.2.1, h.2.2.2.1, h.2.2.2.2.1, h.2.2.2.2.2.1, h.2.2.2.2.2.2.1, h.2.2.2.2.2.2.2⟩
/-- an exception, tracked: its dict none, or tracked, too -/
def ExH (H : Hp) (a C : Addr) (d : Option Addr) : Prop := H a = some (exq (.ref C) d a) ∧ ∀ dx, d = some dx → ∃ fs, H dx = some (.xd fs)
theorem ExH.inst {P : Program} {w : World} {H : Hp} {h : Heap} {a C : Addr} {d : Option Addr} (hok : HOk P w H h) (x : ExH H a C d) : ∃ ox od, PySem.W.InstAt h a ox C od := by
  obtain ⟨oe, vs, e, ⟨z1, z2⟩, hd⟩ := exq_at hok x.1
  have nc : PySem.W.notCls oe = true := by unfold PySem.W.notCls; rw [hd] <;> rfl
  cases d with
  | none => exact ⟨oe, none, e, z1, nc, by rw [z2]; exact trivial⟩
  | some dx =>
    obtain ⟨fs, hx⟩ := x.2 dx rfl
    have q : ObjOk P w H h dx (.xd fs) := hok dx _ hx
    obtain ⟨mA, ⟨od, es, ep, ho, _⟩, _⟩ := q
    exact ⟨oe, some od, e, z1, nc, by rw [z2]; exact ho⟩
/-- isinstance(e, c) -/
def rIsQ (K : PySem.W.Frag) : List V → Hp → VK → Prop := fun xs H Q => ∃ (a C : Addr) (d : Option Addr) (c : V) (cv : Value) (b : Bool), xs = [.ref a, c] ∧ ExH H a C d ∧ ExC K C ∧ (∀ u, RelV c u → u = cv) ∧ PySem.W.kitOne K (.ref C) cv = some b ∧ Q (.bl b) H
section
variable {X : Cx}
theorem call_isQ : CallR X (.builtin "isinstance") (rIsQ X.K) := by
  intro pins s σ H xs us Q I r h
  obtain ⟨a, C, d, c, cv, b, rfl, ex, T, hcv, e, q⟩ := h
  cases r with
  | cons rx rr =>
    cases rr with
    | cons rt rr =>
      cases rr
      cases rx
      have ec := hcv _ rt
      subst ec
      obtain ⟨ox, od, J⟩ := ex.inst I.hok
      have hcl : (PySem.W.clsIn X.K C).isSome = true := by
        have hd := T.hd
        unfold PySem.W.hasDictIn at hd
        cases z : PySem.W.clsIn X.K C with
        | none => rw [z] at hd; cases hd
        | some cd => rfl
      exact PySem.W.kia_one (PySem.W.kitx_exc hcl T.hg T.hk T.hs T.ha T.hn T.ht T.hm) I.kIn J e (fun z => nomatch z) fun tk => ⟨.bl b, H, I.kept (t' := tk) fun _ _ z => z, rfl, q⟩
/-- e.f -/
def tFldQ (K : PySem.W.Frag) (f : Str) (te : TE) : TE := fun σ H Q => te σ H fun x H1 => ∃ (a C dx : Addr) (fs : List (Str × V)) (v : V), x = .ref a ∧ H1 a = some (exq (.ref C) (some dx) a) ∧ H1 dx = some (.xd fs) ∧ ExC K C ∧ PySem.W.findIn K (.ref C) f = some none ∧ fs.lookup f = some v ∧ Q v H1
theorem pe_fldQ {e : Expr} {te : TE} {pos : Pos} {n : Str} (he : PE X e te) (hb : attributeBase e n X.env (eval e X.env) = eval e X.env) : PE X (.Attribute e n pos) (tFldQ X.K n te) := by
  refine ⟨fun pins s σ H Q I h => ?_⟩
  refine attr_of hb (thn (he.run pins s σ H _ I h) fun u s1 hh => ?_)
  obtain ⟨x, H1, I1, rx, a, C, dx, fs, v, rfl, ea, ed, T, hno, l, q⟩ := hh
  obtain rfl : u = Value.ref a := rx
  obtain ⟨oe, vs, ho, ⟨z1, z2⟩, hd⟩ := exq_at I1.hok ea
  have hx : ObjOk X.prog X.w H1 s1.heap dx (.xd fs) := I1.hok dx _ ed
  obtain ⟨mA, hns, hr⟩ := hx
  obtain ⟨od, ho2, hl⟩ := lookIn_ns hns
  obtain ⟨u, hu, ru⟩ := RelO.some_of (v := v) (o := mA n) (by rw [← l]; exact hr n)
  have J : PySem.W.InstAt s1.heap a oe C (some od) := ⟨ho, z1, by unfold PySem.W.notCls; rw [hd] <;> rfl, by rw [z2]; exact ho2⟩
  exact HandSPX.exc_get I1.kIn J T.hg T.hk T.hs (PySem.W.findObj_own T.hd hno rfl (by rw [hl, hu])) (handed_of ru) ⟨v, H1, I1.tok _, ru, q⟩
end
/-! ### what the module's classes say, by a look -/
/-- the class at C: an own one over ValueError, with own __init__ -/
def oexB (K : PySem.W.Frag) (C : Addr) : Bool := (match K.lookup C with
  | some ⟨.type "type", _, .cls ⟨_, _, .ref C' :: bm, _, _, true, _, _, _, _, false⟩, ⟨[_, _, _, _, some (.builtin n), _]⟩⟩ => decide (C' = C) && (decide (n = "ValueError.__new__") && PySem.HandSPX.refsVE bm)
  | _ => false) && (decide (PySem.W.findIn K (.ref C) "__setattr__" = some (some (.builtin "object.__setattr__"))) && (decide (PySem.W.subIn K (.ref C) (.type "BaseException") = some true) && (decide (PySem.W.typeIn K (.ref C) = some (.type "type")) && PySem.W.keepIn K (.ref C))))
theorem oexB_ok {K : PySem.W.Frag} {C : Addr} (h : oexB K C = true) : OexC K C := by
  unfold oexB at h
  simp only [Bool.and_eq_true, decide_eq_true_eq] at h
  obtain ⟨h0, h1, h2, h3, h4⟩ := h
  refine ⟨?_, h1, h2, h3, h4⟩
  split at h0
  · rename_i e
    simp only [Bool.and_eq_true, decide_eq_true_eq] at h0
    obtain ⟨rfl, rfl, h0⟩ := h0
    exact ⟨_, _, _, _, _, _, _, _, _, _, _, _, _, _, _, e, h0⟩
  · cases h0
def exbB (K : PySem.W.Frag) (L : Addr) : Bool := decide (PySem.W.specialIn K (.ref L) "__getattribute__" = some (some (.builtin "type.__getattribute__"))) && (PySem.W.readsIn K L (.type "type") && (match PySem.W.findCls K (.ref L) (.type "type") "__init__" with
  | some (.val (.builtin n)) => decide (n = "ValueError.__init__")
  | _ => false))
theorem exbB_ok {K : PySem.W.Frag} {L : Addr} (h : exbB K L = true) : ExB K L := by
  unfold exbB at h
  simp only [Bool.and_eq_true, decide_eq_true_eq] at h
  obtain ⟨h1, h2, h3⟩ := h
  refine ⟨h1, _, h2, ?_⟩
  split at h3
  · rename_i e
    rw [e, of_decide_eq_true h3]
  · cases h3
/-! ### isinstance, except: which class is a class's -/
def SubOk (K : PySem.W.Frag) (mg : Str → Option Value) (c y : Str) (b : Bool) : Prop :=
  ExC K (He.ga K c) ∧ ((mg y = some (.ref (He.ga K y)) ∧ PySem.W.kitOne K (.ref (He.ga K c)) (.ref (He.ga K y)) = some b) ∨ (mg y = none ∧ ∃ n, bootBuiltins y = some (.type n) ∧ y ≠ "__name__" ∧ PySem.W.kitOne K (.ref (He.ga K c)) (.type n) = some b))
def ExmOk (K : PySem.W.Frag) (mg : Str → Option Value) (c y : Str) (b : Bool) : Prop := mg y = some (.ref (He.ga K y)) ∧ PySem.W.exmOne K (.ref (He.ga K c)) (.ref (He.ga K y)) = some b
def FldOk (K : PySem.W.Frag) (c f : Str) : Prop := ExC K (He.ga K c) ∧ PySem.W.findIn K (.ref (He.ga K c)) f = some none
/-- an exception that flies -/
def isXv (K : PySem.W.Frag) (x : Xv) (cls : Value) (d : Option Addr) (Hd : Hp) : Prop := cls = .ref (He.ga K x.cls) ∧
  ((d = none ∧ x.ks = [] ∧ x.xs = []) ∨ ∃ dx vs, d = some dx ∧ Hd dx = some (.xd (x.ks.zip vs)) ∧ x.ks.length = vs.length ∧ RelDs K Hd vs x.xs)
end Ev
set_option Elab.async false
set_option linter.all false
set_option maxRecDepth 100000
set_option maxHeartbeats 4000000
namespace Ev
open PySem PySem.Spec PyProof.Rows L2
/-! ### enumerate(tuple) -/
theorem meets_enum1 {v : Value} {o : Obj} {H : Heap → Prop} (B : Begins v o H) :
    Meets (Builtin.«enumerate.__new__» ⟨[.type "enumerate", v], []⟩) (fun _ R s => H s.heap ∧
      R (.ok (.ret (.ref (s.heap.push o).objs.size))) { s with heap := (s.heap.push o).push { cls := .type "enumerate", data := .fields #[.none, .bool false, .ref s.heap.objs.size, rawInt 0, .none, .none] } }) :=
  .of_wp fun prog w A R s h => by
    obtain ⟨hp, g, d, tk, os⟩ := s; obtain ⟨h1, h⟩ := h
    have hsub := sub_enumerate
    have q1 : ∀ {A' : Around} {E : Value → Shared → Prop} {Q : Value → Shared → Prop}, Q (.ref hp.objs.size) ⟨hp.push o, g, d, tk, os⟩ → wpAny (model prog w) A' (pyIter v) Q E ⟨hp, g, d, tk, os⟩ :=
      fun q => B.iter prog w _ _ ⟨hp, g, d, tk, os⟩ _ h1 q
    wp_walk using q1
    refine wpAny_stack_any fun st => wpAny_pure ?_
    split
    · rename_i c _ _ _ _ _
      cases (c == Value.type "enumerate")
      · wp_walk using q1
        exact ⟨_, rfl, h⟩
      · wp_walk using q1
        exact ⟨_, rfl, h⟩
    · wp_walk using q1
      exact ⟨_, rfl, h⟩
theorem call_enum1 {prog : Program} {w : World} {A : Around} {E : Value → Shared → Prop} {s : Shared} {v : Value} {o : Obj} {H : Heap → Prop} {Q : Value → Shared → Prop} (B : Begins v o H) (h1 : H s.heap)
    (h : ∀ h', IsEnum h' (s.heap.objs.size + 1) s.heap.objs.size 0 .none → h'.get? s.heap.objs.size = some o → h'.objs.size = s.heap.objs.size + 2 →
      (∀ b o, s.heap.get? b = some o → h'.get? b = some o) → Q (.ref (s.heap.objs.size + 1)) { s with heap := h' }) :
    wpAny (model prog w) A (call (.type "enumerate") [v]) Q E s := by
  refine callType_new F.called_enumerate (by decide) (F.typeCall_enumerate_1 _) (F.newCall_enumerate_1 _) (fun obj => F.args_object_init_2 obj _) F.entry_enumerate_new
    (meets_enum1 B) ⟨h1, ?_⟩
  have hz : (s.heap.push o).objs.size = s.heap.objs.size + 1 := Heap.size_push ..
  show _ ∧ _
  rw [hz]
  have he : IsEnum ((s.heap.push o).push { cls := .type "enumerate", data := .fields #[.none, .bool false, .ref s.heap.objs.size, rawInt 0, .none, .none] }) (s.heap.objs.size + 1) s.heap.objs.size 0 .none := by
    have := Heap.get?_push_size (s.heap.push o) (o := { cls := .type "enumerate", data := .fields #[.none, .bool false, .ref s.heap.objs.size, rawInt 0, .none, .none] }) rfl
    rw [hz] at this; exact this
  refine ⟨⟨_, he, rfl⟩, h _ he (Heap.get?_push_of_some _ (Heap.get?_push_size _ B.free)) (by rw [Heap.size_push, hz]) fun b o x => Heap.get?_push_of_some _ (Heap.get?_push_of_some _ x)⟩
/-- the tuple at a, each item in a new pair -/
def IteT (K : PySem.W.Frag) (a : Addr) : It :=
  ⟨fun i H => ∃ (xs : List V) (x : V), SqT K H a xs ∧ xs[i]? = some x, fun i H v H' => ∃ T x, v = .ref T ∧ H T = none ∧ H' = upd H T (.tup [.int (i : Nat), x]) ∧ ∀ xs, SqT K H a xs → xs[i]? = some x, fun i H => ∃ xs : List V, SqT K H a xs ∧ xs.length ≤ i⟩
theorem turn_enumT {P : Program} {w : World} {K : PySem.W.Frag} {elts : List Expr} {kk : Nat} {tpos : Pos} (a e it : Addr) (hai : a ≠ it) (hae : a ≠ e) :
    Turn P w K (.Tuple elts kk tpos) (IteT K a) [e, it] e (fun i h => (∃ old, IsEnum h e it ((i : Nat) : Int) old) ∧ h.IsTupleIter it a i ∧ e ≠ it) where
  mem := by simp
  obj := fun i h st b hb => by
    obtain ⟨⟨old, he⟩, ⟨o, ho, hc, hd⟩, _⟩ := st
    have e' : b = e ∨ b = it := by simpa using hb
    rcases e' with z | z
    · rw [z]; exact ⟨_, he, fun v q => nomatch q⟩
    · rw [z]; exact ⟨o, ho, fun v q => by rw [hd] at q; cases q⟩
  keep := fun i h h' st k => let ⟨⟨old, he⟩, hi, hne⟩ := st; ⟨⟨old, k e (by simp) _ he⟩, hi.at fun o q => k it (by simp) o q, hne⟩
  item := by
    intro X hP hw hK hc i pins s σ H E I hf st hg
    subst hP hw hK
    obtain ⟨⟨old, he⟩, hit, hne⟩ := st
    obtain ⟨xs, x, hq, hx⟩ := hg
    obtain ⟨its, rv, p, hz⟩ := I.tuple hq
    obtain ⟨u, hu, ru⟩ := rv.get hx
    have hel : e < s.heap.objs.size := Heap.lt_size he
    have hil : it < s.heap.objs.size := by obtain ⟨_, q, _⟩ := hit; exact Heap.lt_size q
    have hT : s.heap.IsTuple a its.toArray := by
      obtain ⟨o, e1, c1, n1, d1⟩ := p
      exact ⟨o, e1, c1, n1, d1⟩
    have D := Draws.tuple (prog := X.prog) (w := X.w) (A := X.A.in1) (I.ok.hd hc) it a hai its.toArray
    have hlt : i < its.toArray.size := by
      have := (List.getElem?_eq_some_iff.mp hu).1
      simpa using this
    refine wpAny_pyNext_enum_itemD D he ⟨hit, hT⟩ hlt hne (by simp only [List.mem_cons, List.mem_nil_iff, or_false]; rintro (z | z); exact hne z; exact hae z.symm) fun x' h' tk hP' ho hit' hT' hsz hk => ?_
    obtain rfl : u = x' := by
      have : its.toArray[i]? = some u := by simpa using hu
      rw [this] at hP'; exact Option.some.inj hP'
    refine ⟨_, rfl, wpAny_letOwnedTupleGo_enum (s := { s with heap := h', toks := tk + 1 }) ho fun h'' he' sb => ?_⟩
    have hT2 : h''.get? s.heap.objs.size = some { cls := .type "tuple", data := .seq #[.int i tk, u] } := (sb.2 _ (Nat.ne_of_gt hel)).trans hT'
    have new : ObjOk X.prog X.w (upd H s.heap.objs.size (.tup [.int (i : Nat), x])) h'' s.heap.objs.size (.tup [.int (i : Nat), x]) :=
      ⟨by show 2 ≤ sizeLine; decide, [.int i tk, u], .cons ⟨_, rfl⟩ (.cons ru .nil), ⟨_, hT2, rfl, _, rfl⟩⟩
    have I1 : Inv X pins σ (upd H s.heap.objs.size (.tup [.int (i : Nat), x])) { s with heap := h'', toks := tk + 1 } :=
      I.turnedNew (ch := [e, it]) (fun b ob hb q => (sb.2 b (fun z => hb (by simp [z]))).trans (hk b ob (fun z => hb (by simp [z])) (fun z => hb (by simp [z])) q)) hf (Nat.le_refl _) new
    refine ⟨.ref s.heap.objs.size, _, I1, rfl, ⟨_, x, rfl, I.hok.fresh (Nat.le_refl _), rfl, fun ys hy => by rw [I.tuple_inj hy hq]; exact hx⟩, ⟨⟨u, ?_⟩, hit'.1.at fun o q => (sb.2 it (Ne.symm hne)).trans q, hne⟩, fun b hb => ?_⟩
    · have e1 : ((i + 1 : Nat) : Int) = (i : Int) + 1 := by omega
      rw [e1]; exact he'
    · have hb' : b < s.heap.objs.size := by
        have e' : b = e ∨ b = it := by simpa using hb
        rcases e' with z | z
        · rw [z]; exact hel
        · rw [z]; exact hil
      rw [upd_ne (Nat.ne_of_lt hb')]
      exact (hf b hb).1
  done := by
    intro X hP hw hK hc i pins s σ H E I hf st hg
    subst hP hw hK
    obtain ⟨⟨old, he⟩, hit, hne⟩ := st
    obtain ⟨xs, hq, hx⟩ := hg
    obtain ⟨its, rv, p, hz⟩ := I.tuple hq
    obtain ⟨f0, f1, f2, f3, f4, f5⟩ := hf it (by simp)
    have hl := rv.length
    have hT : s.heap.IsTuple a its.toArray := by
      obtain ⟨o, e1, c1, n1, d1⟩ := p
      exact ⟨o, e1, c1, n1, d1⟩
    have hT : s.TypeIs (.ref e) "enumerate" := ⟨_, he, rfl⟩
    unfold pyNext
    refine wpAny_bind (wpAny_attempt (wpAny_callSpecial?_slot (name := Str.ofString "__next__") hT F.slot_enumerate_next
      (wpAny_call_entry F.slot_enumerate_next hT F.entry_enumerate_next ?_ (F.args_enumerate_next_1 _))))
    show wpAny _ _ (field (.ref e) 2 >>= _) _ _ _
    refine wpAny_bind (wpAny_field he rfl (x := .ref it) rfl ?_)
    refine wpAny_bind (wpAny_nextOf_tuple_end (A := X.A.in1) (items := its.toArray) (i := i) (I.ok.hd hc) hit (by
      obtain ⟨o, e1, c1, n1, d1⟩ := p
      exact ⟨o, e1, c1, n1, d1⟩) (by simp; omega) fun h' x eb hx' => ?_)
    obtain ⟨o, ho, hcl⟩ := hx'
    refine wpAny_bind (wpAny_isInstance (T := "StopIteration") (b := true) ⟨o, ho, hcl⟩ isSubtype_stop ?_)
    exact wpAny_pure ⟨rfl, I.turned (t' := s.toks) (fun b o hb q => eb b o hb q) f0 f1 f3 f4 f5⟩
  self := fun A i s Q E st h => let ⟨⟨_, he⟩, _⟩ := st; wpAny_pyIter_enum he h
def iEnumA (K : PySem.W.Frag) (ta : TA) : TI := fun σ H R => ta σ H fun vs H1 => ∃ a xs, vs = [.ref a] ∧ ((SqL K H1 a xs ∧ R (Ite K a) H1) ∨ (SqT K H1 a xs ∧ R (IteT K a) H1))
theorem pi_enumA {X : Cx} {e : Expr} {ta : TA} {p pos tpos : Pos} {elts : List Expr} {kk : Nat} (hg : Gl X "enumerate") (hm : X.mg "enumerate" = none) (ha : PA X [e] ta) (hs : starEach [e] X.env = [(false, eval e X.env)]) :
    PI X (.Tuple elts kk tpos) (.Call (.Name "enumerate" p) [e] [] pos) (iEnumA X.K ta) := by
  refine ⟨fun pins s σ H R I h => ?_⟩
  refine Call_ (ld_blt I hg hm boot_enumerate (PyProof.Rows.callWith_type1 (thn (ha.run pos pins s σ H _ I h) fun us s1 ⟨vs, H1, I1, r1, q1⟩ => ?_) hs rfl))
  obtain ⟨a, xs, ex, q⟩ := q1
  subst ex
  cases r1 with
  | cons r rr =>
    cases rr
    cases r
    rcases q with ⟨hq, q⟩ | ⟨hq, q⟩
    · obtain ⟨its, rv, p', hz⟩ := I1.list hq
      refine call_enumerate_list p'.isList fun h' he hit hsz hk => wpAny_pyIter_enum he ?_
      have I2 : Inv X pins σ H1 { s1 with heap := h' } := I1.kept (t' := s1.toks) hk
      refine ⟨s1.heap.objs.size + 1, [s1.heap.objs.size + 1, s1.heap.objs.size], _, _, H1, rfl, I2, turn_enum a (s1.heap.objs.size + 1) s1.heap.objs.size, ⟨⟨.none, he⟩, hit, Nat.succ_ne_self _⟩, fun b hb => ?_, q⟩
      have e' : b = s1.heap.objs.size + 1 ∨ b = s1.heap.objs.size := by simpa using hb
      have hle : s1.heap.objs.size ≤ b := by
        rcases e' with z | z
        · rw [z]; exact Nat.le_add_right _ _
        · rw [z]; exact Nat.le_refl _
      exact I1.fpOk hle (I1.hok.fresh hle)
    · obtain ⟨its, rv, p', hz⟩ := I1.tuple hq
      have hal : a < s1.heap.objs.size := p'.lt
      have hT : s1.heap.IsTuple a its.toArray := by
        obtain ⟨o, e1, c1, n1, d1⟩ := p'
        exact ⟨o, e1, c1, n1, d1⟩
      refine call_enum1 (begins_tuple a its.toArray) hT fun h' he hit hsz hk => wpAny_pyIter_enum he ?_
      have I2 : Inv X pins σ H1 { s1 with heap := h' } := I1.kept (t' := s1.toks) hk
      refine ⟨s1.heap.objs.size + 1, [s1.heap.objs.size + 1, s1.heap.objs.size], _, _, H1, rfl, I2, turn_enumT a (s1.heap.objs.size + 1) s1.heap.objs.size (Nat.ne_of_lt hal) (Nat.ne_of_lt (Nat.lt_succ_of_lt hal)), ⟨⟨.none, he⟩, ⟨_, hit, rfl, rfl⟩, Nat.succ_ne_self _⟩, fun b hb => ?_, q⟩
      have e' : b = s1.heap.objs.size + 1 ∨ b = s1.heap.objs.size := by simpa using hb
      have hle : s1.heap.objs.size ≤ b := by
        rcases e' with z | z
        · rw [z]; exact Nat.le_add_right _ _
        · rw [z]; exact Nat.le_refl _
      exact I1.fpOk hle (I1.hok.fresh hle)
/-! ### a tuple of texts that the module names -/
def TixOk (K : PySem.W.Frag) (mg : Str → Option Value) (x : Str) (ys : List Str) : Prop := mg x = some (.ref (He.ga K x)) ∧ (∀ H : Hp, SqT K H (He.ga K x) (ys.map V.str)) ∧ ∃ o, K.lookup (He.ga K x) = some o ∧ o.cls = .type "tuple" ∧ o.dict = none
def tixB (K : PySem.W.Frag) (x : Str) : Bool := match K.lookup (He.ga K x) with
  | some ⟨.type "tuple", none, _, _⟩ => true
  | _ => false
theorem tixB_ok {K : PySem.W.Frag} {x : Str} (h : tixB K x = true) : ∃ o, K.lookup (He.ga K x) = some o ∧ o.cls = .type "tuple" ∧ o.dict = none := by
  unfold tixB at h
  split at h
  · rename_i e; exact ⟨_, e, rfl, rfl⟩
  · cases h
end Ev
set_option Elab.async false
set_option linter.all false
set_option maxRecDepth 100000
set_option maxHeartbeats 4000000
namespace Ev
open PySem PySem.Spec PyProof.Rows L2
open PySem.SeqAt
/-! ### a == b -/
section
variable {X : Cx} {pins : List (Addr × Obj)} {σ : L2.St} {H : Hp} {s : Shared}
theorem lq {K : PySem.W.Frag} {H : Hp} {a : Addr} {xs : List V} (h : H a = some (.lst xs)) : SqL K H a xs := .inl (.inl h)
theorem no_both (I : Inv X pins σ H s) {a : Addr} {xs ys : List V} (h : SqL X.K H a xs) (k : SqT X.K H a ys) : False := by
  obtain ⟨_, _, ⟨o, n, e, c, _⟩, _⟩ := I.list h
  obtain ⟨_, _, ⟨o', e', c', _⟩, _⟩ := I.tuple k
  rw [e] at e'; cases e'
  rw [c] at c'
  injection c' with z
  exact absurd z (by decide)
mutual
theorem RelD.uniq (I : Inv X pins σ H s) : ∀ (d e : D) (v : V), D.nod d = true → D.nod e = true → RelD X.K H v d → RelD X.K H v e → d = e
  | .non, e, v, _, _, h, k => by cases h; cases k; rfl
  | .bl _, e, v, _, _, h, k => by cases h; cases k; rfl
  | .int _, e, v, _, _, h, k => by cases h; cases k; rfl
  | .str _, e, v, _, _, h, k => by cases h; cases k; rfl
  | .lst ds, e, v, n1, n2, h, k => by
    cases h with
    | lst h1 h2 =>
      cases k with
      | lst k1 k2 =>
        have z := I.list_inj (lq h1) (lq k1)
        subst z
        rw [RelDs.uniq I ds _ _ n1 n2 h2 k2]
      | tup k1 k2 => exact (no_both I (lq h1) k1).elim
      | _ => cases n2
  | .tup ds, e, v, n1, n2, h, k => by
    cases h with
    | tup h1 h2 =>
      cases k with
      | tup k1 k2 =>
        have z := I.tuple_inj h1 k1
        subst z
        rw [RelDs.uniq I ds _ _ n1 n2 h2 k2]
      | lst k1 k2 => exact (no_both I (lq k1) h1).elim
      | _ => cases n2
  | .dic _ _, _, _, n1, _, _, _ => by cases n1
  | .scr _, _, _, n1, _, _, _ => by cases n1
  | .exv _ _ _, _, _, n1, _, _, _ => by cases n1
theorem RelDs.uniq (I : Inv X pins σ H s) : ∀ (d e : List D) (v : List V), D.nods d = true → D.nods e = true → RelDs X.K H v d → RelDs X.K H v e → d = e
  | [], e, v, _, _, h, k => by cases h; cases k; rfl
  | d :: ds, e, v, n1, n2, h, k => by
    cases h with
    | cons h1 h2 =>
      cases k with
      | cons k1 k2 =>
        have m1 := Bool.and_eq_true_iff.mp n1
        have m2 := Bool.and_eq_true_iff.mp n2
        rw [RelD.uniq I d _ _ m1.1 m2.1 h1 k1, RelDs.uniq I ds _ _ m1.2 m2.2 h2 k2]
end
mutual
theorem D.eqv_self : ∀ d : D, D.nod d = true → D.eqv d d = true
  | .non, _ => rfl
  | .bl b, _ => by simp [D.eqv]
  | .int _, _ => by simp [D.eqv]
  | .str _, _ => by simp [D.eqv]
  | .lst ds, n => by simp only [D.eqv]; exact D.eqvs_self ds n
  | .tup ds, n => by simp only [D.eqv]; exact D.eqvs_self ds n
  | .dic _ _, n => by cases n
  | .scr _, n => by cases n
  | .exv _ _ _, n => by cases n
theorem D.eqvs_self : ∀ d : List D, D.nods d = true → D.eqvs d d = true
  | [], _ => rfl
  | d :: ds, n => by
    have m := Bool.and_eq_true_iff.mp n
    simp only [D.eqvs, D.eqv_self d m.1, D.eqvs_self ds m.2, Bool.and_self]
end
def atEq (xs ys : List D) (j : Nat) : Bool := D.eqv (xs.getD j .non) (ys.getD j .non)
theorem eqvs_all : ∀ (xs ys : List D), D.eqvs xs ys = ((List.range (min xs.length ys.length)).all (atEq xs ys) && xs.length == ys.length)
  | [], [] => rfl
  | [], _ :: _ => rfl
  | _ :: _, [] => rfl
  | x :: xs, y :: ys => by
    have e : min (x :: xs).length (y :: ys).length = min xs.length ys.length + 1 := by simp only [List.length_cons]; omega
    rw [D.eqvs, eqvs_all xs ys, e, List.range_succ_eq_map, List.all_cons, List.all_map]
    have e2 : (atEq (x :: xs) (y :: ys) ∘ Nat.succ) = atEq xs ys := by
      funext j
      rfl
    rw [e2]
    show (D.eqv x y && _) = ((D.eqv x y && _) && _)
    have e3 : ((x :: xs).length == (y :: ys).length) = (xs.length == ys.length) := by
      rw [Bool.eq_iff_iff]
      simp
    rw [e3, Bool.and_assoc]
theorem eqvs_same {xs ys : List D} (h : xs.length = ys.length) : D.eqvs xs ys = (List.range xs.length).all (atEq xs ys) := by
  rw [eqvs_all, h, Nat.min_self]
  simp
theorem eqvs_unlike {xs ys : List D} (h : xs.length ≠ ys.length) : D.eqvs xs ys = false := by
  rw [eqvs_all]
  have : (xs.length == ys.length) = false := by simpa using h
  rw [this, Bool.and_false]
mutual
theorem eqAt_rel (I : Inv X pins σ H s) : ∀ (d e : D) (A : Around) (x y : V) (v u : Value), RelD X.K H x d → RelD X.K H y e → RelV x v → RelV y u → D.nod d = true → D.nod e = true → A.units + min (D.dep d) (D.dep e) < cLine → EqAt A s v u (D.eqv d e)
  | .non, e, A, x, y, v, u, h, k, r, q, _, n2, hu => by
    cases h
    cases r
    have hu' : A.units < cLine := by omega
    cases k with
    | non => cases q; exact .same _
    | bl b => cases q; exact .none_bool b
    | int i => obtain ⟨t, rfl⟩ := q; exact .none_int i t
    | str z => obtain ⟨t, rfl⟩ := q; exact .none_str z t
    | lst k1 _ =>
      cases q
      obtain ⟨its, _, p, _⟩ := I.list (lq k1)
      exact .none_list p.isList hu'
    | tup k1 _ =>
      cases q
      obtain ⟨its, _, p, _⟩ := I.tuple k1
      exact .none_tuple p hu'
    | _ => cases n2
  | .bl a, e, A, x, y, v, u, h, k, r, q, _, n2, hu => by
    cases h
    cases r
    have hu' : A.units < cLine := by omega
    cases k with
    | non => cases q; exact .bool_none a
    | bl b => cases q; exact .bool_bool a b
    | int i => obtain ⟨t, rfl⟩ := q; exact .bool_int a i t
    | str z => obtain ⟨t, rfl⟩ := q; exact .bool_str a z t
    | lst k1 _ =>
      cases q
      obtain ⟨its, _, p, _⟩ := I.list (lq k1)
      exact .bool_list a p.isList hu'
    | tup k1 _ =>
      cases q
      obtain ⟨its, _, p, _⟩ := I.tuple k1
      exact .bool_tuple a p hu'
    | _ => cases n2
  | .int a, e, A, x, y, v, u, h, k, r, q, _, n2, hu => by
    cases h
    obtain ⟨ta, rfl⟩ := r
    have hu' : A.units < cLine := by omega
    cases k with
    | non => cases q; exact .int_none a ta
    | bl b => cases q; exact .int_bool a ta b
    | int i => obtain ⟨t, rfl⟩ := q; exact .int_int a ta i t
    | str z => obtain ⟨t, rfl⟩ := q; exact .int_str a ta z t
    | lst k1 _ =>
      cases q
      obtain ⟨its, _, p, _⟩ := I.list (lq k1)
      exact .int_list a ta p.isList hu'
    | tup k1 _ =>
      cases q
      obtain ⟨its, _, p, _⟩ := I.tuple k1
      exact .int_tuple a ta p hu'
    | _ => cases n2
  | .str a, e, A, x, y, v, u, h, k, r, q, _, n2, hu => by
    cases h
    obtain ⟨ta, rfl⟩ := r
    have hu' : A.units < cLine := by omega
    cases k with
    | non => cases q; exact .str_none a ta
    | bl b => cases q; exact .str_bool a ta b
    | int i => obtain ⟨t, rfl⟩ := q; exact .str_int a ta i t
    | str z => obtain ⟨t, rfl⟩ := q; exact .str_str a ta z t
    | lst k1 _ =>
      cases q
      obtain ⟨its, _, p, _⟩ := I.list (lq k1)
      exact .str_list a ta p.isList hu'
    | tup k1 _ =>
      cases q
      obtain ⟨its, _, p, _⟩ := I.tuple k1
      exact .str_tuple a ta p hu'
    | _ => cases n2
  | .lst ds, e, A, x, y, v, u, h, k, r, q, n1, n2, hu => by
    cases h with
    | @lst ah xh _ h1 h2 =>
    cases r
    obtain ⟨its, rv, p, _⟩ := I.list (lq h1)
    have hu' : A.units < cLine := by omega
    cases k with
    | non => cases q; exact .list_none p.isList hu'
    | bl b => cases q; exact .list_bool b p.isList hu'
    | int i => obtain ⟨t, rfl⟩ := q; exact .list_int i t p.isList hu'
    | str z => obtain ⟨t, rfl⟩ := q; exact .list_str z t p.isList hu'
    | tup k1 _ =>
      cases q
      obtain ⟨_, _, p', _⟩ := I.tuple k1
      exact .list_tuple p.isList p' hu'
    | @lst ak xk es k1 k2 =>
      cases q
      obtain ⟨its', rv', p', _⟩ := I.list (lq k1)
      have g1 := h2.length
      have g2 := k2.length
      have g3 := rv.length
      have g4 := rv'.length
      have hu2 : A.in1.units + min (D.deps ds) (D.deps es) < cLine := by
        have : min (D.dep (.lst ds)) (D.dep (.lst es)) = min (D.deps ds) (D.deps es) + 1 := by simp only [D.dep]; omega
        show A.units + 1 + _ < cLine
        omega
      show EqAt A s (.ref ah) (.ref ak) (D.eqvs ds es)
      by_cases same : ah = ak
      · subst same
        have z : ds = es := by
          have := RelD.uniq I (.lst ds) (.lst es) _ n1 n2 (.lst h1 h2) (.lst k1 k2)
          injection this
        subst z
        rw [D.eqvs_self ds n1]
        exact .same _
      · refine .of_refs same ?_
        by_cases hl : ds.length = es.length
        · rw [eqvs_same hl]
          have z : ds.length = its.toArray.size := by rw [List.size_toArray]; omega
          rw [z]
          exact .lists p.isList p'.isList (by rw [List.size_toArray, List.size_toArray]; omega) hu' fun j j1 j2 => eqAts_rel I ds es A.in1 xh xk its its' h2 k2 rv rv' n1 n2 hu2 j (by simpa using j1) (by simpa using j2)
        · rw [eqvs_unlike hl]
          refine .lists_lengths p.isList p'.isList ?_ hu'
          have : its.toArray.size ≠ its'.toArray.size := by rw [List.size_toArray, List.size_toArray]; omega
          simpa using this
    | _ => cases n2
  | .tup ds, e, A, x, y, v, u, h, k, r, q, n1, n2, hu => by
    cases h with
    | @tup ah xh _ h1 h2 =>
    cases r
    obtain ⟨its, rv, p, _⟩ := I.tuple h1
    have hu' : A.units < cLine := by omega
    cases k with
    | non => cases q; exact .tuple_none p hu'
    | bl b => cases q; exact .tuple_bool b p hu'
    | int i => obtain ⟨t, rfl⟩ := q; exact .tuple_int i t p hu'
    | str z => obtain ⟨t, rfl⟩ := q; exact .tuple_str z t p hu'
    | lst k1 _ =>
      cases q
      obtain ⟨_, _, p', _⟩ := I.list (lq k1)
      exact .tuple_list p p'.isList hu'
    | @tup ak xk es k1 k2 =>
      cases q
      obtain ⟨its', rv', p', _⟩ := I.tuple k1
      have g1 := h2.length
      have g2 := k2.length
      have g3 := rv.length
      have g4 := rv'.length
      have hu2 : A.in1.units + min (D.deps ds) (D.deps es) < cLine := by
        have : min (D.dep (.tup ds)) (D.dep (.tup es)) = min (D.deps ds) (D.deps es) + 1 := by simp only [D.dep]; omega
        show A.units + 1 + _ < cLine
        omega
      show EqAt A s (.ref ah) (.ref ak) (D.eqvs ds es)
      by_cases same : ah = ak
      · subst same
        have z : ds = es := by
          have := RelD.uniq I (.tup ds) (.tup es) _ n1 n2 (.tup h1 h2) (.tup k1 k2)
          injection this
        subst z
        rw [D.eqvs_self ds n1]
        exact .same _
      · refine .of_refs same ?_
        rw [eqvs_all]
        have z : ds.length = its.toArray.size := by rw [List.size_toArray]; omega
        have z' : es.length = its'.toArray.size := by rw [List.size_toArray]; omega
        rw [z, z']
        exact .tuples p p' hu' fun j j1 j2 => eqAts_rel I ds es A.in1 xh xk its its' h2 k2 rv rv' n1 n2 hu2 j (by simpa using j1) (by simpa using j2)
    | _ => cases n2
  | .dic _ _, _, _, _, _, _, _, _, _, _, _, n1, _, _ => by cases n1
  | .scr _, _, _, _, _, _, _, _, _, _, _, n1, _, _ => by cases n1
  | .exv _ _ _, _, _, _, _, _, _, _, _, _, _, n1, _, _ => by cases n1
theorem eqAts_rel (I : Inv X pins σ H s) : ∀ (ds es : List D) (A : Around) (xs ys : List V) (vs us : List Value), RelDs X.K H xs ds → RelDs X.K H ys es → Vals xs vs → Vals ys us → D.nods ds = true → D.nods es = true → A.units + min (D.deps ds) (D.deps es) < cLine →
    ∀ j (h1 : j < vs.length) (h2 : j < us.length), EqAt A s vs[j] us[j] (atEq ds es j)
  | [], _, _, _, _, _, _, h, _, r, _, _, _, _, j, h1, _ => by cases h; cases r; exact absurd h1 (Nat.not_lt_zero _)
  | _ :: _, [], _, _, _, _, _, _, k, _, q, _, _, _, j, _, h2 => by cases k; cases q; exact absurd h2 (Nat.not_lt_zero _)
  | d :: ds, e :: es, A, _, _, _, _, h, k, r, q, n1, n2, hu, j, h1, h2 => by
    have m1 := Bool.and_eq_true_iff.mp n1
    have m2 := Bool.and_eq_true_iff.mp n2
    have b1 : D.dep d ≤ D.deps (d :: ds) := Nat.le_max_left _ _
    have b2 : D.dep e ≤ D.deps (e :: es) := Nat.le_max_left _ _
    have b3 : D.deps ds ≤ D.deps (d :: ds) := Nat.le_max_right _ _
    have b4 : D.deps es ≤ D.deps (e :: es) := Nat.le_max_right _ _
    cases h with
    | cons ha hb =>
      cases k with
      | cons ka kb =>
        cases r with
        | cons ra rb =>
          cases q with
          | cons qa qb =>
            cases j with
            | zero => exact eqAt_rel I d e A _ _ _ _ ha ka ra qa m1.1 m2.1 (by omega)
            | succ j => exact eqAts_rel I ds es A _ _ _ _ hb kb rb qb m1.2 m2.2 (by omega) j (by simpa using h1) (by simpa using h2)
end
end
end Ev
set_option Elab.async false
set_option linter.all false
set_option maxRecDepth 100000
set_option maxHeartbeats 4000000
namespace Ev
open PySem PySem.Spec PyProof.Rows L2
open PySem.SeqAt
section
variable {K : PySem.W.Frag} {Hd H : Hp} {v : V}
theorem PkD.int {i : Int} (h : PkD K Hd H v (.int i)) : v = .int i := by
  rcases h with h | ⟨_, _, _, _, e, _⟩
  · cases h; rfl
  · cases e
theorem PkD.str {i : Str} (h : PkD K Hd H v (.str i)) : v = .str i := by
  rcases h with h | ⟨_, _, _, _, e, _⟩
  · cases h; rfl
  · cases e
theorem PkD.bl {i : Bool} (h : PkD K Hd H v (.bl i)) : v = .bl i := by
  rcases h with h | ⟨_, _, _, _, e, _⟩
  · cases h; rfl
  · cases e
theorem PkD.non (h : PkD K Hd H v .non) : v = .non := by
  rcases h with h | ⟨_, _, _, _, e, _⟩
  · cases h; rfl
  · cases e
theorem PkD.scr {ns : List Int} (le : Le Hd H) (h : PkD K Hd H v (.scr ns)) : ∃ a, v = .ref a ∧ SqL K H a (ns.map V.int) := by
  rcases h with h | ⟨_, _, _, _, e, _⟩
  · cases h with
    | scr hs => exact ⟨_, rfl, le.sql hs⟩
  · cases e
end
def rD2 (K : PySem.W.Frag) (f : D → D → Option D) : R2 := fun x y H Q => ∃ Hd io st dx dy dz, Rl K Hd io st H ∧ PkD K Hd H x dx ∧ PkD K Hd H y dy ∧ f dx dy = some dz ∧ Post K Hd io H (RelW K) Q (.ok (.d dz) st)
def rD1 (K : PySem.W.Frag) (f : D → Option D) : V → Hp → VK → Prop := fun x H Q => ∃ Hd io st dx dz, Rl K Hd io st H ∧ PkD K Hd H x dx ∧ f dx = some dz ∧ Post K Hd io H (RelW K) Q (.ok (.d dz) st)
def strRep (x : Str) (k : Nat) : Str := ⟨(List.replicate k x.cps).foldl (· ++ ·) #[]⟩
def binD : Operator → D → D → Option D
  | .Add, .int i, .int j => some (.int (i + j))
  | .Add, .str a, .str b => if a.length + b.length ≤ sizeLine then some (.str (a ++ b)) else none
  | .Add, .lst a, .lst b => if a.length + b.length ≤ sizeLine then some (.lst (a ++ b)) else none
  | .Add, .tup a, .tup b => if a.length + b.length ≤ sizeLine then some (.tup (a ++ b)) else none
  | .Sub, .int i, .int j => some (.int (i - j))
  | .Mult, .int i, .int j => if i.natAbs.log2 + j.natAbs.log2 < 1000000 then some (.int (i * j)) else none
  | .Mult, .lst xs, .int k => if -(2 ^ 63) ≤ k ∧ k < 2 ^ 63 ∧ xs.length * k.toNat ≤ sizeLine then some (.lst (List.replicate k.toNat xs).flatten) else none
  | .Mult, .tup xs, .int k => if xs.isEmpty = false ∧ 2 ≤ k ∧ k ≤ 1000 ∧ xs.length ≤ 1000 then some (.tup (List.replicate k.toNat xs).flatten) else none
  | .Mult, .str x, .int k => if 2 ≤ k ∧ k < 2 ^ 20 ∧ 1 ≤ x.length ∧ x.length ≤ 4 then some (.str (strRep x k.toNat)) else none
  | .Mod, .int i, .int j => if 0 < j then some (.int (i % j)) else none
  | .FloorDiv, .int i, .int j => if 0 < j ∧ j.natAbs.log2 < 9000 then some (.int (i / j)) else none
  | .Pow, .int i, .int j => if 0 ≤ j ∧ j ≤ 1000000 ∧ i.natAbs < 2 ^ 64 then some (.int (i ^ j.toNat)) else none
  | _, _, _ => none
theorem RelDs.nil_iff {K : PySem.W.Frag} {H : Hp} {vs : List V} {ds : List D} (r : RelDs K H vs ds) : vs = [] ↔ ds = [] := by
  have h := r.length
  constructor
  · intro e; subst e; exact List.length_eq_zero_iff.mp h.symm
  · intro e; subst e; exact List.length_eq_zero_iff.mp h
theorem RelDs.rep {K : PySem.W.Frag} {H : Hp} {vs : List V} {ds : List D} (r : RelDs K H vs ds) : ∀ n : Nat, RelDs K H (List.replicate n vs).flatten (List.replicate n ds).flatten
  | 0 => .nil
  | n + 1 => by
    rw [List.replicate_succ, List.replicate_succ, List.flatten_cons, List.flatten_cons]
    exact r.append (RelDs.rep r n)
theorem rep_size (a : Array Nat) : ∀ (n : Nat) (acc : Array Nat), ((List.replicate n a).foldl (· ++ ·) acc).size = acc.size + n * a.size
  | 0, acc => by simp
  | n + 1, acc => by
    rw [List.replicate_succ, List.foldl_cons, rep_size a n, Array.size_append, Nat.succ_mul]
    omega
section
variable {X : Cx}
theorem op_add2 : OpR X (binaryOp .Add) (rD2 X.K (binD .Add)) := by
  intro pins s σ H x y v u Q I rx ry h
  obtain ⟨Hd, io, st, dx, dy, dz, l, px, py, e, q⟩ := h
  cases dx <;> cases dy <;> try (cases e; done)
  case int.int i j =>
    cases e
    rw [px.int] at rx; rw [py.int] at ry
    exact op_add pins s σ H _ _ v u Q I rx ry ⟨i, j, rfl, rfl, q.here l (.int _)⟩
  case str.str a b =>
    have e' : (if a.length + b.length ≤ sizeLine then some (D.str (a ++ b)) else none) = some dz := e
    by_cases hz : a.length + b.length ≤ sizeLine
    · rw [if_pos hz] at e'
      cases e'
      rw [px.str] at rx; rw [py.str] at ry
      exact op_add_str pins s σ H _ _ v u Q I rx ry ⟨a, b, rfl, rfl, hz, q.here l (.str _)⟩
    · rw [if_neg hz] at e'; cases e'
  case lst.lst a b =>
    have e' : (if a.length + b.length ≤ sizeLine then some (D.lst (a ++ b)) else none) = some dz := e
    by_cases hz : a.length + b.length ≤ sizeLine
    · rw [if_pos hz] at e'
      cases e'
      obtain ⟨p1, vs, rfl, h1, r1⟩ := px.list l.sub
      obtain ⟨p2, us, rfl, h2, r2⟩ := py.list l.sub
      exact op_cat pins s σ H _ _ v u Q I rx ry ⟨p1, p2, vs, us, rfl, rfl, h1, h2, by rw [r1.length, r2.length]; exact hz, fun p hp => q.newLst l (r1.append r2) hp⟩
    · rw [if_neg hz] at e'; cases e'
  case tup.tup a b =>
    have e' : (if a.length + b.length ≤ sizeLine then some (D.tup (a ++ b)) else none) = some dz := e
    by_cases hz : a.length + b.length ≤ sizeLine
    · rw [if_pos hz] at e'
      cases e'
      obtain ⟨p1, vs, rfl, h1, r1⟩ := px.tuple l.sub
      obtain ⟨p2, us, rfl, h2, r2⟩ := py.tuple l.sub
      have w1 : RelD X.K Hd (.ref p1) (.tup a) := by
        rcases px with px | ⟨_, _, _, _, e, _⟩
        · exact px
        · cases e
      have w2 : RelD X.K Hd (.ref p2) (.tup b) := by
        rcases py with py | ⟨_, _, _, _, e, _⟩
        · exact py
        · cases e
      refine op_catA pins s σ H _ _ v u Q I rx ry ⟨p1, p2, vs, us, rfl, rfl, h1, h2, by rw [r1.length, r2.length]; exact hz, fun z => ?_, fun z z2 => ?_, fun z z2 p hp => q.newTup l (r1.append r2) hp⟩
      · rw [r1.nil_iff] at z; subst z
        exact q.here l w2
      · rw [r2.nil_iff] at z2; subst z2
        rw [List.append_nil] at q
        exact q.here l w1
    · rw [if_neg hz] at e'; cases e'
theorem op_sub2 : OpR X (binaryOp .Sub) (rD2 X.K (binD .Sub)) := by
  intro pins s σ H x y v u Q I rx ry h
  obtain ⟨Hd, io, st, dx, dy, dz, l, px, py, e, q⟩ := h
  cases dx <;> cases dy <;> try (cases e; done)
  case int.int i j =>
    cases e
    rw [px.int] at rx; rw [py.int] at ry
    exact op_sub pins s σ H _ _ v u Q I rx ry ⟨i, j, rfl, rfl, q.here l (.int _)⟩
theorem op_mod2 : OpR X (binaryOp .Mod) (rD2 X.K (binD .Mod)) := by
  intro pins s σ H x y v u Q I rx ry h
  obtain ⟨Hd, io, st, dx, dy, dz, l, px, py, e, q⟩ := h
  cases dx <;> cases dy <;> try (cases e; done)
  case int.int i j =>
    have e' : (if 0 < j then some (D.int (i % j)) else none) = some dz := e
    by_cases hz : 0 < j
    · rw [if_pos hz] at e'
      cases e'
      rw [px.int] at rx; rw [py.int] at ry
      exact op_mod pins s σ H _ _ v u Q I rx ry ⟨i, j, rfl, rfl, hz, q.here l (.int _)⟩
    · rw [if_neg hz] at e'; cases e'
theorem op_fdiv2 : OpR X (binaryOp .FloorDiv) (rD2 X.K (binD .FloorDiv)) := by
  intro pins s σ H x y v u Q I rx ry h
  obtain ⟨Hd, io, st, dx, dy, dz, l, px, py, e, q⟩ := h
  cases dx <;> cases dy <;> try (cases e; done)
  case int.int i j =>
    have e' : (if 0 < j ∧ j.natAbs.log2 < 9000 then some (D.int (i / j)) else none) = some dz := e
    by_cases hz : 0 < j ∧ j.natAbs.log2 < 9000
    · rw [if_pos hz] at e'
      cases e'
      rw [px.int] at rx; rw [py.int] at ry
      exact op_fdivW pins s σ H _ _ v u Q I rx ry ⟨i, j, rfl, rfl, hz, q.here l (.int _)⟩
    · rw [if_neg hz] at e'; cases e'
theorem op_pow2 : OpR X (binaryOp .Pow) (rD2 X.K (binD .Pow)) := by
  intro pins s σ H x y v u Q I rx ry h
  obtain ⟨Hd, io, st, dx, dy, dz, l, px, py, e, q⟩ := h
  cases dx <;> cases dy <;> try (cases e; done)
  case int.int i j =>
    have e' : (if 0 ≤ j ∧ j ≤ 1000000 ∧ i.natAbs < 2 ^ 64 then some (D.int (i ^ j.toNat)) else none) = some dz := e
    by_cases hz : 0 ≤ j ∧ j ≤ 1000000 ∧ i.natAbs < 2 ^ 64
    · rw [if_pos hz] at e'
      cases e'
      rw [px.int] at rx; rw [py.int] at ry
      exact op_pow pins s σ H _ _ v u Q I rx ry ⟨i, j, rfl, rfl, hz, q.here l (.int _)⟩
    · rw [if_neg hz] at e'; cases e'
theorem op_mult2 : OpR X (binaryOp .Mult) (rD2 X.K (binD .Mult)) := by
  intro pins s σ H x y v u Q I rx ry h
  obtain ⟨Hd, io, st, dx, dy, dz, l, px, py, e, q⟩ := h
  cases dx <;> cases dy <;> try (cases e; done)
  case int.int i j =>
    have e' : (if i.natAbs.log2 + j.natAbs.log2 < 1000000 then some (D.int (i * j)) else none) = some dz := e
    by_cases hz : i.natAbs.log2 + j.natAbs.log2 < 1000000
    · rw [if_pos hz] at e'
      cases e'
      rw [px.int] at rx; rw [py.int] at ry
      exact op_mulW pins s σ H _ _ v u Q I rx ry ⟨i, j, rfl, rfl, hz, q.here l (.int _)⟩
    · rw [if_neg hz] at e'; cases e'
  case lst.int xs k =>
    have e' : (if -(2 ^ 63) ≤ k ∧ k < 2 ^ 63 ∧ xs.length * k.toNat ≤ sizeLine then some (D.lst (List.replicate k.toNat xs).flatten) else none) = some dz := e
    by_cases hz : -(2 ^ 63) ≤ k ∧ k < 2 ^ 63 ∧ xs.length * k.toNat ≤ sizeLine
    · rw [if_pos hz] at e'
      cases e'
      obtain ⟨p1, vs, rfl, h1, r1⟩ := px.list l.sub
      rw [py.int] at ry
      obtain ⟨z1, z2, z3⟩ := hz
      exact op_rep pins s σ H _ _ v u Q I rx ry ⟨p1, k, vs, rfl, rfl, h1, z1, z2, by rw [r1.length]; exact z3, fun p hp => q.newLst l (r1.rep _) hp⟩
    · rw [if_neg hz] at e'; cases e'
  case tup.int xs k =>
    have e' : (if xs.isEmpty = false ∧ 2 ≤ k ∧ k ≤ 1000 ∧ xs.length ≤ 1000 then some (D.tup (List.replicate k.toNat xs).flatten) else none) = some dz := e
    by_cases hz : xs.isEmpty = false ∧ 2 ≤ k ∧ k ≤ 1000 ∧ xs.length ≤ 1000
    · rw [if_pos hz] at e'
      cases e'
      obtain ⟨p1, vs, rfl, h1, r1⟩ := px.tuple l.sub
      rw [py.int] at ry
      obtain ⟨z0, z1, z2, z3⟩ := hz
      exact op_repT pins s σ H _ _ v u Q I rx ry ⟨p1, k, vs, rfl, rfl, h1, (fun z => by rw [r1.nil_iff] at z; subst z; cases z0), z1, z2, by rw [r1.length]; exact z3, fun p hp => q.newTup l (r1.rep _) hp⟩
    · rw [if_neg hz] at e'; cases e'
  case str.int a k =>
    have e' : (if 2 ≤ k ∧ k < 2 ^ 20 ∧ 1 ≤ a.length ∧ a.length ≤ 4 then some (D.str (strRep a k.toNat)) else none) = some dz := e
    by_cases hz : 2 ≤ k ∧ k < 2 ^ 20 ∧ 1 ≤ a.length ∧ a.length ≤ 4
    · rw [if_pos hz] at e'
      cases e'
      rw [px.str] at rx; rw [py.int] at ry
      obtain ⟨t, rfl⟩ := rx
      obtain ⟨t', rfl⟩ := ry
      obtain ⟨z1, z2, z3, z4⟩ := hz
      have hk : (k.toNat : Int) = k := by omega
      refine PySem.P.mul_str ?_ (fun _ _ => ?_) (fun _ _ => ?_) ?_
      · rw [decide_eq_false (by omega), decide_eq_false (by omega)]; rfl
      · have hn : (2 ^ 20 : Int) ≤ (2 ^ 63 - 1) / k := (Int.le_ediv_iff_mul_le (by omega)).mpr (by omega)
        omega
      · have hs : sizeLine = 16777216 := sizeLine_eq
        have : a.length * k.toNat ≤ 4 * 2 ^ 20 := Nat.mul_le_mul z4 (by omega)
        exact PyProof.Rows.short24 (by omega)
      · rw [if_neg (by omega)]
        have hb : (k == 1 || a.length == 0) = false := by
          rw [Bool.or_eq_false_iff]
          exact ⟨by simpa using (by omega : k ≠ 1), by simpa using (by omega : a.length ≠ 0)⟩
        rw [hb]
        rw [if_neg Bool.false_ne_true]
        refine ⟨?_, .str (strRep a k.toNat), H, I.tok _, ⟨_, rfl⟩, q.here l (.str _)⟩
        have hs : sizeLine = 16777216 := sizeLine_eq
        have e1 : (strRep a k.toNat).length = k.toNat * a.length := by
          show (strRep a k.toNat).cps.size = k.toNat * a.cps.size
          unfold strRep
          rw [rep_size]
          simp
        have : k.toNat * a.length ≤ 2 ^ 20 * 4 := Nat.mul_le_mul (by omega) z4
        show (strRep a k.toNat).length ≤ sizeLine
        omega
    · rw [if_neg hz] at e'; cases e'
theorem op_bin (op : Operator) : OpR X (binaryOp op) (rD2 X.K (binD op)) := by
  cases op
  case Add => exact op_add2
  case Sub => exact op_sub2
  case Mult => exact op_mult2
  case Mod => exact op_mod2
  case FloorDiv => exact op_fdiv2
  case Pow => exact op_pow2
  all_goals
    intro pins s σ H x y v u Q I rx ry h
    obtain ⟨Hd, io, st, dx, dy, dz, l, px, py, e, q⟩ := h
    cases dx <;> cases dy <;> cases e
end
end Ev
set_option Elab.async false
set_option linter.all false
set_option maxRecDepth 100000
set_option maxHeartbeats 4000000
namespace Ev
open PySem PySem.Spec PyProof.Rows L2
open PySem.SeqAt
def shallow (d e : D) : Bool := D.nod d && D.nod e && decide (min (D.dep d) (D.dep e) ≤ 60)
def eqD (d e : D) : Option Bool := if shallow d e = true then some (D.eqv d e) else none
def D.isNon : D → Bool
  | .non => true
  | _ => false
def strLt (a b : Str) : Bool := decide (a.cps.toList < b.cps.toList)
def strLe (a b : Str) : Bool := !decide (b.cps.toList < a.cps.toList)
def inList (d : D) (ds : List D) : Option Bool := if D.nod d && D.nods ds && decide (min (D.deps ds) (D.dep d) ≤ 60) then some (ds.any fun y => D.eqv y d) else none
def inD : D → D → Option Bool
  | .str a, .str b => some (!(Builtin.Str.occurrences b a 0 b.length 1).isEmpty)
  | d, .lst ds => inList d ds
  | d, .tup ds => inList d ds
  | _, _ => none
def isD : D → D → Option Bool
  | d, .non => some (D.isNon d)
  | .bl a, .bl b => some (decide (a = b))
  | _, _ => none
def cmpD : CmpOp → D → D → Option Bool
  | .Eq, d, e => eqD d e
  | .NotEq, d, e => (eqD d e).map (!·)
  | .Lt, .int i, .int j => some (decide (i < j))
  | .LtE, .int i, .int j => some (decide (i ≤ j))
  | .Gt, .int i, .int j => some (decide (j < i))
  | .GtE, .int i, .int j => some (decide (j ≤ i))
  | .Lt, .str a, .str b => some (strLt a b)
  | .LtE, .str a, .str b => some (strLe a b)
  | .Gt, .str a, .str b => some (strLt b a)
  | .GtE, .str a, .str b => some (strLe b a)
  | .Is, d, e => isD d e
  | .IsNot, d, e => (isD d e).map (!·)
  | .In, d, e => inD d e
  | .NotIn, d, e => (inD d e).map (!·)
  | _, _, _ => none
def rC2 (K : PySem.W.Frag) (f : D → D → Option Bool) : R2 := fun x y H Q => ∃ Hd io st dx dy b, Rl K Hd io st H ∧ PkD K Hd H x dx ∧ PkD K Hd H y dy ∧ f dx dy = some b ∧ Q (.bl b) H
section
variable {X : Cx} {pins : List (Addr × Obj)} {σ : L2.St} {H : Hp} {s : Shared}
theorem rcAt_rel (I : Inv X pins σ H s) (d e : D) (A : Around) (x y : V) (v u : Value) (h : RelD X.K H x d) (k : RelD X.K H y e) (r : RelV x v) (q : RelV y u) (n1 : D.nod d = true) (n2 : D.nod e = true) (hu : A.units + min (D.dep d) (D.dep e) < cLine) : RcAt A s v u (D.eqv d e) := by
  have hu' : A.units < cLine := by omega
  cases d with
  | non  =>
    cases h
    cases r
    cases e with
    | non  =>
      cases k
      cases q
      exact .none_none 
    | bl bb =>
      cases k
      cases q
      exact .none_bool _
    | int ib =>
      cases k
      obtain ⟨tb, rfl⟩ := q
      exact .none_int _ tb
    | str zb =>
      cases k
      obtain ⟨tb, rfl⟩ := q
      exact .none_str _ tb
    | lst es =>
      cases k with
      | @lst ak xk _ k1 k2 =>
      cases q
      obtain ⟨its', rv', p', _⟩ := I.list (lq k1)
      exact .none_list p'.isList hu'
    | tup es =>
      cases k with
      | @tup ak xk _ k1 k2 =>
      cases q
      obtain ⟨its', rv', p', _⟩ := I.tuple k1
      exact .none_tuple p' hu'
    | dic => cases n2
    | scr => cases n2
    | exv => cases n2
  | bl ba =>
    cases h
    cases r
    cases e with
    | non  =>
      cases k
      cases q
      exact .bool_none _ 
    | bl bb =>
      cases k
      cases q
      exact .bool_bool _ _
    | int ib =>
      cases k
      obtain ⟨tb, rfl⟩ := q
      exact .bool_int _ _ tb
    | str zb =>
      cases k
      obtain ⟨tb, rfl⟩ := q
      exact .bool_str _ _ tb
    | lst es =>
      cases k with
      | @lst ak xk _ k1 k2 =>
      cases q
      obtain ⟨its', rv', p', _⟩ := I.list (lq k1)
      exact .bool_list _ p'.isList hu'
    | tup es =>
      cases k with
      | @tup ak xk _ k1 k2 =>
      cases q
      obtain ⟨its', rv', p', _⟩ := I.tuple k1
      exact .bool_tuple _ p' hu'
    | dic => cases n2
    | scr => cases n2
    | exv => cases n2
  | int ia =>
    cases h
    obtain ⟨ta, rfl⟩ := r
    cases e with
    | non  =>
      cases k
      cases q
      exact .int_none _ ta 
    | bl bb =>
      cases k
      cases q
      exact .int_bool _ ta _
    | int ib =>
      cases k
      obtain ⟨tb, rfl⟩ := q
      exact .int_int _ ta _ tb
    | str zb =>
      cases k
      obtain ⟨tb, rfl⟩ := q
      exact .int_str _ ta _ tb
    | lst es =>
      cases k with
      | @lst ak xk _ k1 k2 =>
      cases q
      obtain ⟨its', rv', p', _⟩ := I.list (lq k1)
      exact .int_list _ ta p'.isList hu'
    | tup es =>
      cases k with
      | @tup ak xk _ k1 k2 =>
      cases q
      obtain ⟨its', rv', p', _⟩ := I.tuple k1
      exact .int_tuple _ ta p' hu'
    | dic => cases n2
    | scr => cases n2
    | exv => cases n2
  | str za =>
    cases h
    obtain ⟨ta, rfl⟩ := r
    cases e with
    | non  =>
      cases k
      cases q
      exact .str_none _ ta 
    | bl bb =>
      cases k
      cases q
      exact .str_bool _ ta _
    | int ib =>
      cases k
      obtain ⟨tb, rfl⟩ := q
      exact .str_int _ ta _ tb
    | str zb =>
      cases k
      obtain ⟨tb, rfl⟩ := q
      exact .str_str _ ta _ tb
    | lst es =>
      cases k with
      | @lst ak xk _ k1 k2 =>
      cases q
      obtain ⟨its', rv', p', _⟩ := I.list (lq k1)
      exact .str_list _ ta p'.isList hu'
    | tup es =>
      cases k with
      | @tup ak xk _ k1 k2 =>
      cases q
      obtain ⟨its', rv', p', _⟩ := I.tuple k1
      exact .str_tuple _ ta p' hu'
    | dic => cases n2
    | scr => cases n2
    | exv => cases n2
  | lst ds =>
    cases h with
    | @lst ah xh _ h1 h2 =>
    cases r
    obtain ⟨its, rv, p, _⟩ := I.list (lq h1)
    cases e with
    | non  =>
      cases k
      cases q
      exact .list_none  p.isList hu'
    | bl bb =>
      cases k
      cases q
      exact .list_bool _ p.isList hu'
    | int ib =>
      cases k
      obtain ⟨tb, rfl⟩ := q
      exact .list_int _ tb p.isList hu'
    | str zb =>
      cases k
      obtain ⟨tb, rfl⟩ := q
      exact .list_str _ tb p.isList hu'
    | lst es =>
      cases k with
      | @lst ak xk _ k1 k2 =>
      cases q
      obtain ⟨its', rv', p', _⟩ := I.list (lq k1)
      have g1 := h2.length
      have g2 := k2.length
      have g3 := rv.length
      have g4 := rv'.length
      have hu2 : A.in1.units + min (D.deps ds) (D.deps es) < cLine := by
        have : min (D.dep (.lst ds)) (D.dep (.lst es)) = min (D.deps ds) (D.deps es) + 1 := by simp only [D.dep]; omega
        show A.units + 1 + _ < cLine
        omega
      have he : ∀ j (j1 : j < its.toArray.size) (j2 : j < its'.toArray.size), EqAt A.in1 s its.toArray[j] its'.toArray[j] (atEq ds es j) := fun j j1 j2 => eqAts_rel I ds es A.in1 xh xk its its' h2 k2 rv rv' n1 n2 hu2 j (by simpa using j1) (by simpa using j2)
      show RcAt A s (.ref ah) (.ref ak) (D.eqvs ds es)
      by_cases hl : ds.length = es.length
      · rw [eqvs_same hl]
        have z : ds.length = its.toArray.size := by rw [List.size_toArray]; omega
        rw [z]
        exact .lists p.isList p'.isList (by rw [List.size_toArray, List.size_toArray]; omega) hu' he
      · rw [eqvs_unlike hl]
        refine .lists_lengths p.isList p'.isList ?_ hu'
        have : its.toArray.size ≠ its'.toArray.size := by rw [List.size_toArray, List.size_toArray]; omega
        simpa using this
    | tup es =>
      cases k with
      | @tup ak xk _ k1 k2 =>
      cases q
      obtain ⟨its', rv', p', _⟩ := I.tuple k1
      exact .list_tuple p.isList p' hu'
    | dic => cases n2
    | scr => cases n2
    | exv => cases n2
  | tup ds =>
    cases h with
    | @tup ah xh _ h1 h2 =>
    cases r
    obtain ⟨its, rv, p, _⟩ := I.tuple h1
    cases e with
    | non  =>
      cases k
      cases q
      exact .tuple_none  p hu'
    | bl bb =>
      cases k
      cases q
      exact .tuple_bool _ p hu'
    | int ib =>
      cases k
      obtain ⟨tb, rfl⟩ := q
      exact .tuple_int _ tb p hu'
    | str zb =>
      cases k
      obtain ⟨tb, rfl⟩ := q
      exact .tuple_str _ tb p hu'
    | lst es =>
      cases k with
      | @lst ak xk _ k1 k2 =>
      cases q
      obtain ⟨its', rv', p', _⟩ := I.list (lq k1)
      exact .tuple_list p p'.isList hu'
    | tup es =>
      cases k with
      | @tup ak xk _ k1 k2 =>
      cases q
      obtain ⟨its', rv', p', _⟩ := I.tuple k1
      have g1 := h2.length
      have g2 := k2.length
      have g3 := rv.length
      have g4 := rv'.length
      have hu2 : A.in1.units + min (D.deps ds) (D.deps es) < cLine := by
        have : min (D.dep (.tup ds)) (D.dep (.tup es)) = min (D.deps ds) (D.deps es) + 1 := by simp only [D.dep]; omega
        show A.units + 1 + _ < cLine
        omega
      have he : ∀ j (j1 : j < its.toArray.size) (j2 : j < its'.toArray.size), EqAt A.in1 s its.toArray[j] its'.toArray[j] (atEq ds es j) := fun j j1 j2 => eqAts_rel I ds es A.in1 xh xk its its' h2 k2 rv rv' n1 n2 hu2 j (by simpa using j1) (by simpa using j2)
      show RcAt A s (.ref ah) (.ref ak) (D.eqvs ds es)
      rw [eqvs_all]
      have z : ds.length = its.toArray.size := by rw [List.size_toArray]; omega
      have z' : es.length = its'.toArray.size := by rw [List.size_toArray]; omega
      rw [z, z']
      exact .tuples p p' hu' he
    | dic => cases n2
    | scr => cases n2
    | exv => cases n2
  | dic => cases n1
  | scr => cases n1
  | exv => cases n1
theorem rcNe_rel (I : Inv X pins σ H s) (d e : D) (A : Around) (x y : V) (v u : Value) (h : RelD X.K H x d) (k : RelD X.K H y e) (r : RelV x v) (q : RelV y u) (n1 : D.nod d = true) (n2 : D.nod e = true) (hu : A.units + min (D.dep d) (D.dep e) < cLine) : RcNeAt A s v u (!D.eqv d e) := by
  have hu' : A.units < cLine := by omega
  cases d with
  | non  =>
    cases h
    cases r
    cases e with
    | non  =>
      cases k
      cases q
      exact .none_none 
    | bl bb =>
      cases k
      cases q
      exact .none_bool _
    | int ib =>
      cases k
      obtain ⟨tb, rfl⟩ := q
      exact .none_int _ tb
    | str zb =>
      cases k
      obtain ⟨tb, rfl⟩ := q
      exact .none_str _ tb
    | lst es =>
      cases k with
      | @lst ak xk _ k1 k2 =>
      cases q
      obtain ⟨its', rv', p', _⟩ := I.list (lq k1)
      exact .none_list p'.isList hu'
    | tup es =>
      cases k with
      | @tup ak xk _ k1 k2 =>
      cases q
      obtain ⟨its', rv', p', _⟩ := I.tuple k1
      exact .none_tuple p' hu'
    | dic => cases n2
    | scr => cases n2
    | exv => cases n2
  | bl ba =>
    cases h
    cases r
    cases e with
    | non  =>
      cases k
      cases q
      exact .bool_none _ 
    | bl bb =>
      cases k
      cases q
      exact .bool_bool _ _
    | int ib =>
      cases k
      obtain ⟨tb, rfl⟩ := q
      exact .bool_int _ _ tb
    | str zb =>
      cases k
      obtain ⟨tb, rfl⟩ := q
      exact .bool_str _ _ tb
    | lst es =>
      cases k with
      | @lst ak xk _ k1 k2 =>
      cases q
      obtain ⟨its', rv', p', _⟩ := I.list (lq k1)
      exact .bool_list _ p'.isList hu'
    | tup es =>
      cases k with
      | @tup ak xk _ k1 k2 =>
      cases q
      obtain ⟨its', rv', p', _⟩ := I.tuple k1
      exact .bool_tuple _ p' hu'
    | dic => cases n2
    | scr => cases n2
    | exv => cases n2
  | int ia =>
    cases h
    obtain ⟨ta, rfl⟩ := r
    cases e with
    | non  =>
      cases k
      cases q
      exact .int_none _ ta 
    | bl bb =>
      cases k
      cases q
      exact .int_bool _ ta _
    | int ib =>
      cases k
      obtain ⟨tb, rfl⟩ := q
      exact .int_int _ ta _ tb
    | str zb =>
      cases k
      obtain ⟨tb, rfl⟩ := q
      exact .int_str _ ta _ tb
    | lst es =>
      cases k with
      | @lst ak xk _ k1 k2 =>
      cases q
      obtain ⟨its', rv', p', _⟩ := I.list (lq k1)
      exact .int_list _ ta p'.isList hu'
    | tup es =>
      cases k with
      | @tup ak xk _ k1 k2 =>
      cases q
      obtain ⟨its', rv', p', _⟩ := I.tuple k1
      exact .int_tuple _ ta p' hu'
    | dic => cases n2
    | scr => cases n2
    | exv => cases n2
  | str za =>
    cases h
    obtain ⟨ta, rfl⟩ := r
    cases e with
    | non  =>
      cases k
      cases q
      exact .str_none _ ta 
    | bl bb =>
      cases k
      cases q
      exact .str_bool _ ta _
    | int ib =>
      cases k
      obtain ⟨tb, rfl⟩ := q
      exact .str_int _ ta _ tb
    | str zb =>
      cases k
      obtain ⟨tb, rfl⟩ := q
      exact .str_str _ ta _ tb
    | lst es =>
      cases k with
      | @lst ak xk _ k1 k2 =>
      cases q
      obtain ⟨its', rv', p', _⟩ := I.list (lq k1)
      exact .str_list _ ta p'.isList hu'
    | tup es =>
      cases k with
      | @tup ak xk _ k1 k2 =>
      cases q
      obtain ⟨its', rv', p', _⟩ := I.tuple k1
      exact .str_tuple _ ta p' hu'
    | dic => cases n2
    | scr => cases n2
    | exv => cases n2
  | lst ds =>
    cases h with
    | @lst ah xh _ h1 h2 =>
    cases r
    obtain ⟨its, rv, p, _⟩ := I.list (lq h1)
    cases e with
    | non  =>
      cases k
      cases q
      exact .list_none  p.isList hu'
    | bl bb =>
      cases k
      cases q
      exact .list_bool _ p.isList hu'
    | int ib =>
      cases k
      obtain ⟨tb, rfl⟩ := q
      exact .list_int _ tb p.isList hu'
    | str zb =>
      cases k
      obtain ⟨tb, rfl⟩ := q
      exact .list_str _ tb p.isList hu'
    | lst es =>
      cases k with
      | @lst ak xk _ k1 k2 =>
      cases q
      obtain ⟨its', rv', p', _⟩ := I.list (lq k1)
      have g1 := h2.length
      have g2 := k2.length
      have g3 := rv.length
      have g4 := rv'.length
      have hu2 : A.in1.units + min (D.deps ds) (D.deps es) < cLine := by
        have : min (D.dep (.lst ds)) (D.dep (.lst es)) = min (D.deps ds) (D.deps es) + 1 := by simp only [D.dep]; omega
        show A.units + 1 + _ < cLine
        omega
      have he : ∀ j (j1 : j < its.toArray.size) (j2 : j < its'.toArray.size), EqAt A.in1 s its.toArray[j] its'.toArray[j] (atEq ds es j) := fun j j1 j2 => eqAts_rel I ds es A.in1 xh xk its its' h2 k2 rv rv' n1 n2 hu2 j (by simpa using j1) (by simpa using j2)
      show RcNeAt A s (.ref ah) (.ref ak) (!D.eqvs ds es)
      by_cases hl : ds.length = es.length
      · rw [eqvs_same hl]
        have z : ds.length = its.toArray.size := by rw [List.size_toArray]; omega
        rw [z]
        exact .lists p.isList p'.isList (by rw [List.size_toArray, List.size_toArray]; omega) hu' he
      · rw [eqvs_unlike hl]
        refine .lists_lengths p.isList p'.isList ?_ hu'
        have : its.toArray.size ≠ its'.toArray.size := by rw [List.size_toArray, List.size_toArray]; omega
        simpa using this
    | tup es =>
      cases k with
      | @tup ak xk _ k1 k2 =>
      cases q
      obtain ⟨its', rv', p', _⟩ := I.tuple k1
      exact .list_tuple p.isList p' hu'
    | dic => cases n2
    | scr => cases n2
    | exv => cases n2
  | tup ds =>
    cases h with
    | @tup ah xh _ h1 h2 =>
    cases r
    obtain ⟨its, rv, p, _⟩ := I.tuple h1
    cases e with
    | non  =>
      cases k
      cases q
      exact .tuple_none  p hu'
    | bl bb =>
      cases k
      cases q
      exact .tuple_bool _ p hu'
    | int ib =>
      cases k
      obtain ⟨tb, rfl⟩ := q
      exact .tuple_int _ tb p hu'
    | str zb =>
      cases k
      obtain ⟨tb, rfl⟩ := q
      exact .tuple_str _ tb p hu'
    | lst es =>
      cases k with
      | @lst ak xk _ k1 k2 =>
      cases q
      obtain ⟨its', rv', p', _⟩ := I.list (lq k1)
      exact .tuple_list p p'.isList hu'
    | tup es =>
      cases k with
      | @tup ak xk _ k1 k2 =>
      cases q
      obtain ⟨its', rv', p', _⟩ := I.tuple k1
      have g1 := h2.length
      have g2 := k2.length
      have g3 := rv.length
      have g4 := rv'.length
      have hu2 : A.in1.units + min (D.deps ds) (D.deps es) < cLine := by
        have : min (D.dep (.tup ds)) (D.dep (.tup es)) = min (D.deps ds) (D.deps es) + 1 := by simp only [D.dep]; omega
        show A.units + 1 + _ < cLine
        omega
      have he : ∀ j (j1 : j < its.toArray.size) (j2 : j < its'.toArray.size), EqAt A.in1 s its.toArray[j] its'.toArray[j] (atEq ds es j) := fun j j1 j2 => eqAts_rel I ds es A.in1 xh xk its its' h2 k2 rv rv' n1 n2 hu2 j (by simpa using j1) (by simpa using j2)
      show RcNeAt A s (.ref ah) (.ref ak) (!D.eqvs ds es)
      rw [eqvs_all]
      have z : ds.length = its.toArray.size := by rw [List.size_toArray]; omega
      have z' : es.length = its'.toArray.size := by rw [List.size_toArray]; omega
      rw [z, z']
      exact .tuples p p' hu' he
    | dic => cases n2
    | scr => cases n2
    | exv => cases n2
  | dic => cases n1
  | scr => cases n1
  | exv => cases n1

def rC2_of {f : D → D → Option Bool} {Q : VK} {Hd : Hp} {io : List Addr} {st : Store} {x y : V} {dx dy : D} {b : Bool} (l : Rl X.K Hd io st H) (px : PkD X.K Hd H x dx) (py : PkD X.K Hd H y dy) (e : f dx dy = some b) (q : Q (.bl b) H) : rC2 X.K f x y H Q :=
  ⟨Hd, io, st, dx, dy, b, l, px, py, e, q⟩
theorem op_eq2 (hu : X.A.units + 64 < cLine) : OpR X (compareOp .Eq) (rC2 X.K (cmpD .Eq)) := by
  intro pins s σ H x y v u Q I rx ry h
  obtain ⟨Hd, io, st, dx, dy, b, l, px, py, e, q⟩ := h
  have e' : (if shallow dx dy = true then some (D.eqv dx dy) else none) = some b := e
  by_cases hs : shallow dx dy = true
  · rw [if_pos hs] at e'
    cases e'
    have h1 := Bool.and_eq_true_iff.mp hs
    have h2 := Bool.and_eq_true_iff.mp h1.1
    have h3 : min (D.dep dx) (D.dep dy) ≤ 60 := of_decide_eq_true h1.2
    exact rcAt_rel I dx dy X.A x y v u (px.rel l.sub) (py.rel l.sub) rx ry h2.1 h2.2 (by omega) X.prog X.w X.xe _ ⟨.bl _, H, I, rfl, q⟩
  · rw [if_neg hs] at e'; cases e'
theorem op_ne2 (hu : X.A.units + 64 < cLine) : OpR X (compareOp .NotEq) (rC2 X.K (cmpD .NotEq)) := by
  intro pins s σ H x y v u Q I rx ry h
  obtain ⟨Hd, io, st, dx, dy, b, l, px, py, e, q⟩ := h
  have e' : (if shallow dx dy = true then some (D.eqv dx dy) else none).map (!·) = some b := e
  by_cases hs : shallow dx dy = true
  · rw [if_pos hs] at e'
    cases e'
    have h1 := Bool.and_eq_true_iff.mp hs
    have h2 := Bool.and_eq_true_iff.mp h1.1
    have h3 : min (D.dep dx) (D.dep dy) ≤ 60 := of_decide_eq_true h1.2
    exact rcNe_rel I dx dy X.A x y v u (px.rel l.sub) (py.rel l.sub) rx ry h2.1 h2.2 (by omega) X.prog X.w X.xe _ ⟨.bl _, H, I, rfl, q⟩
  · rw [if_neg hs] at e'; cases e'
end
end Ev
set_option Elab.async false
set_option linter.all false
set_option maxRecDepth 100000
set_option maxHeartbeats 4000000
namespace Ev
open PySem PySem.Spec PyProof.Rows L2
open PySem.SeqAt
section
variable {X : Cx} {pins : List (Addr × Obj)} {σ : L2.St} {H : Hp} {s : Shared}
theorem PkD.isNon {K : PySem.W.Frag} {Hd H : Hp} {v : V} {d : D} (h : PkD K Hd H v d) : decide (v = .non) = D.isNon d := by
  rcases h with h | ⟨a, vs, ds, rfl, rfl, _⟩
  · cases h <;> simp [D.isNon]
  · simp [D.isNon]
theorem op_is2 : OpR X (compareOp .Is) (rC2 X.K (cmpD .Is)) := by
  intro pins s σ H x y v u Q I rx ry h
  obtain ⟨Hd, io, st, dx, dy, b, l, px, py, e, q⟩ := h
  have e' : isD dx dy = some b := e
  cases dy with
  | non =>
    have e2 : some (D.isNon dx) = some b := by cases dx <;> exact e'
    cases e2
    rw [py.non] at ry
    exact op_isN pins s σ H _ _ v u Q I rx ry ⟨rfl, by rw [px.isNon]; exact q⟩
  | bl c =>
    cases dx with
    | bl a =>
      cases e'
      rw [px.bl] at rx; rw [py.bl] at ry
      exact op_isBl pins s σ H _ _ v u Q I rx ry ⟨a, c, rfl, rfl, q⟩
    | _ => cases e'
  | _ => cases dx <;> cases e'
theorem op_isnot2 : OpR X (compareOp .IsNot) (rC2 X.K (cmpD .IsNot)) := by
  intro pins s σ H x y v u Q I rx ry h
  obtain ⟨Hd, io, st, dx, dy, b, l, px, py, e, q⟩ := h
  have e' : (isD dx dy).map (!·) = some b := e
  cases dy with
  | non =>
    have e2 : some (!D.isNon dx) = some b := by cases dx <;> exact e'
    cases e2
    rw [py.non] at ry
    exact op_notN pins s σ H _ _ v u Q I rx ry ⟨rfl, by rw [px.isNon]; exact q⟩
  | bl c =>
    cases dx with
    | bl a =>
      cases e'
      rw [px.bl] at rx; rw [py.bl] at ry
      exact op_notBl pins s σ H _ _ v u Q I rx ry ⟨a, c, rfl, rfl, q⟩
    | _ => cases e'
  | _ => cases dx <;> cases e'
theorem op_lt2 : OpR X (compareOp .Lt) (rC2 X.K (cmpD .Lt)) := by
  intro pins s σ H x y v u Q I rx ry h
  obtain ⟨Hd, io, st, dx, dy, b, l, px, py, e, q⟩ := h
  cases dx <;> cases dy <;> try (cases e; done)
  case int.int i j =>
    cases e
    rw [px.int] at rx; rw [py.int] at ry
    exact op_lt pins s σ H _ _ v u Q I rx ry ⟨i, j, rfl, rfl, q⟩
  case str.str i j =>
    cases e
    rw [px.str] at rx; rw [py.str] at ry
    exact op_lt_str pins s σ H _ _ v u Q I rx ry ⟨i, j, rfl, rfl, q⟩
theorem op_gt2 : OpR X (compareOp .Gt) (rC2 X.K (cmpD .Gt)) := by
  intro pins s σ H x y v u Q I rx ry h
  obtain ⟨Hd, io, st, dx, dy, b, l, px, py, e, q⟩ := h
  cases dx <;> cases dy <;> try (cases e; done)
  case int.int i j =>
    cases e
    rw [px.int] at rx; rw [py.int] at ry
    exact op_gt pins s σ H _ _ v u Q I rx ry ⟨i, j, rfl, rfl, q⟩
  case str.str i j =>
    cases e
    rw [px.str] at rx; rw [py.str] at ry
    exact op_gt_str pins s σ H _ _ v u Q I rx ry ⟨i, j, rfl, rfl, q⟩
theorem op_le2 : OpR X (compareOp .LtE) (rC2 X.K (cmpD .LtE)) := by
  intro pins s σ H x y v u Q I rx ry h
  obtain ⟨Hd, io, st, dx, dy, b, l, px, py, e, q⟩ := h
  cases dx <;> cases dy <;> try (cases e; done)
  case int.int i j =>
    cases e
    rw [px.int] at rx; rw [py.int] at ry
    exact op_le pins s σ H _ _ v u Q I rx ry ⟨i, j, rfl, rfl, q⟩
  case str.str i j =>
    cases e
    rw [px.str] at rx; rw [py.str] at ry
    exact op_le_str pins s σ H _ _ v u Q I rx ry ⟨i, j, rfl, rfl, q⟩
theorem op_ge2 : OpR X (compareOp .GtE) (rC2 X.K (cmpD .GtE)) := by
  intro pins s σ H x y v u Q I rx ry h
  obtain ⟨Hd, io, st, dx, dy, b, l, px, py, e, q⟩ := h
  cases dx <;> cases dy <;> try (cases e; done)
  case int.int i j =>
    cases e
    rw [px.int] at rx; rw [py.int] at ry
    exact op_ge pins s σ H _ _ v u Q I rx ry ⟨i, j, rfl, rfl, q⟩
  case str.str i j =>
    cases e
    rw [px.str] at rx; rw [py.str] at ry
    exact op_ge_str pins s σ H _ _ v u Q I rx ry ⟨i, j, rfl, rfl, q⟩
/-! ### x in a list, a tuple -/
open Classical in
noncomputable def inE (K : PySem.W.Frag) (H : Hp) (d : D) (y : Value) : Bool := decide (∃ v e, RelV v y ∧ RelD K H v e ∧ D.nod e = true ∧ D.eqv e d = true)
open Classical in
theorem inE_eq (I : Inv X pins σ H s) {d e : D} {v : V} {y : Value} (r : RelV v y) (h : RelD X.K H v e) (n : D.nod e = true) : inE X.K H d y = D.eqv e d := by
  unfold inE
  cases hb : D.eqv e d with
  | true => exact decide_eq_true ⟨v, e, r, h, n, hb⟩
  | false =>
    refine decide_eq_false fun ⟨v', e', r', h', n', hb'⟩ => ?_
    have : v' = v := r'.inj r
    subst this
    have : e' = e := RelD.uniq I e' e v' n' n h' h
    subst this
    rw [hb] at hb'; cases hb'
theorem inE_any (I : Inv X pins σ H s) (d : D) : ∀ (ds : List D) (vs : List V) (us : List Value), RelDs X.K H vs ds → Vals vs us → D.nods ds = true → us.any (inE X.K H d) = ds.any fun y => D.eqv y d
  | [], _, _, h, r, _ => by cases h; cases r; rfl
  | e :: ds, _, _, h, r, n => by
    have m := Bool.and_eq_true_iff.mp n
    cases h with
    | cons h1 h2 =>
      cases r with
      | cons r1 r2 => rw [List.any_cons, List.any_cons, inE_eq I r1 h1 m.1, inE_any I d ds _ _ h2 r2 m.2]
theorem inE_at (I : Inv X pins σ H s) {A : Around} {d : D} {x : V} {v : Value} (hx : RelD X.K H x d) (rx : RelV x v) (n : D.nod d = true) : ∀ (ds : List D) (vs : List V) (us : List Value), RelDs X.K H vs ds → Vals vs us → D.nods ds = true → A.units + min (D.deps ds) (D.dep d) < cLine →
    ∀ y, y ∈ us → EqAt A s y v (inE X.K H d y)
  | [], _, _, h, r, _, _, y, hy => by cases h; cases r; cases hy
  | e :: ds, _, _, h, r, m0, hu, y, hy => by
    have m := Bool.and_eq_true_iff.mp m0
    have b1 : D.dep e ≤ D.deps (e :: ds) := Nat.le_max_left _ _
    have b3 : D.deps ds ≤ D.deps (e :: ds) := Nat.le_max_right _ _
    cases h with
    | cons h1 h2 =>
      cases r with
      | cons r1 r2 =>
        rcases List.mem_cons.mp hy with z | z
        · subst z
          rw [inE_eq I r1 h1 m.1]
          exact eqAt_rel I e d A _ _ _ _ h1 hx r1 rx m.1 n (by omega)
        · exact inE_at I hx rx n ds _ _ h2 r2 m.2 (by omega) y z
theorem in_seq (hu : X.A.units + 65 < cLine) {neg : Bool} {x y : V} {v u : Value} {Q : VK} {Hd : Hp} {d : D} {ds : List D} {b : Bool} (I : Inv X pins σ H s) (le : Le Hd H) (px : PkD X.K Hd H x d) (py : PkD X.K Hd H y (.lst ds) ∨ PkD X.K Hd H y (.tup ds)) (rx : RelV x v) (ry : RelV y u)
    (e : inList d ds = some b) (q : Q (.bl (neg ^^ b)) H) : wpAny (model X.prog X.w) X.A (compareOp (if neg then .NotIn else .In) v u) (EP X pins σ Q) X.xe s := by
  have e' : (if (D.nod d && D.nods ds && decide (min (D.deps ds) (D.dep d) ≤ 60)) = true then some (ds.any fun y => D.eqv y d) else none) = some b := e
  by_cases hs : (D.nod d && D.nods ds && decide (min (D.deps ds) (D.dep d) ≤ 60)) = true
  · rw [if_pos hs] at e'
    cases e'
    have h1 := Bool.and_eq_true_iff.mp hs
    have h2 := Bool.and_eq_true_iff.mp h1.1
    have h3 : min (D.deps ds) (D.dep d) ≤ 60 := of_decide_eq_true h1.2
    have hx := px.rel le
    have hu3 : X.A.in1.units + min (D.deps ds) (D.dep d) < cLine := by
      show X.A.units + 1 + _ < cLine
      omega
    rcases py with py | py
    · obtain ⟨p, vs, rfl, hp, r⟩ := py.list le
      cases ry
      obtain ⟨its, rv, pl, _⟩ := I.list (lq hp)
      have ha := inE_any I d ds vs its (r.mono le) rv h2.2
      have at' := inE_at I (A := X.A.in1) hx rx h2.1 ds vs its (r.mono le) rv h2.2 hu3
      cases neg with
      | true => exact notIn_listAt (inE X.K H d) pl.isList (fun y hy => at' y (by simpa using hy)) ⟨.bl _, H, I, rfl, by rw [List.any_toArray, ha]; simpa using q⟩
      | false => exact in_listAt (inE X.K H d) pl.isList (fun y hy => at' y (by simpa using hy)) ⟨.bl _, H, I, rfl, by rw [List.any_toArray, ha]; simpa using q⟩
    · obtain ⟨p, vs, rfl, hp, r⟩ := py.tuple le
      cases ry
      obtain ⟨its, rv, pl, _⟩ := I.tuple hp
      have ha := inE_any I d ds vs its (r.mono le) rv h2.2
      have at' := inE_at I (A := X.A.in1) hx rx h2.1 ds vs its (r.mono le) rv h2.2 hu3
      cases neg with
      | true => exact notIn_tupleAt (inE X.K H d) pl (fun y hy => at' y (by simpa using hy)) ⟨.bl _, H, I, rfl, by rw [List.any_toArray, ha]; simpa using q⟩
      | false => exact in_tupleAt (inE X.K H d) pl (fun y hy => at' y (by simpa using hy)) ⟨.bl _, H, I, rfl, by rw [List.any_toArray, ha]; simpa using q⟩
  · rw [if_neg hs] at e'; cases e'
theorem op_in2 (hu : X.A.units + 65 < cLine) : OpR X (compareOp .In) (rC2 X.K (cmpD .In)) := by
  intro pins s σ H x y v u Q I rx ry h
  obtain ⟨Hd, io, st, dx, dy, b, l, px, py, e, q⟩ := h
  have e' : inD dx dy = some b := e
  cases dy with
  | lst ds =>
    have e2 : inList dx ds = some b := by cases dx <;> exact e'
    exact in_seq (neg := false) hu I l.sub px (.inl py) rx ry e2 (by simpa using q)
  | tup ds =>
    have e2 : inList dx ds = some b := by cases dx <;> exact e'
    exact in_seq (neg := false) hu I l.sub px (.inr py) rx ry e2 (by simpa using q)
  | str z =>
    cases dx with
    | str a =>
      cases e'
      rw [px.str] at rx; rw [py.str] at ry
      exact op_in_str pins s σ H _ _ v u Q I rx ry ⟨a, z, rfl, rfl, q⟩
    | _ => cases e'
  | _ => cases dx <;> cases e'
theorem op_notin2 (hu : X.A.units + 65 < cLine) : OpR X (compareOp .NotIn) (rC2 X.K (cmpD .NotIn)) := by
  intro pins s σ H x y v u Q I rx ry h
  obtain ⟨Hd, io, st, dx, dy, b, l, px, py, e, q⟩ := h
  have e' : (inD dx dy).map (!·) = some b := e
  have red : ∀ {o : Option Bool}, o.map (!·) = some b → ∃ c, o = some c ∧ b = !c := fun {o} h => by
    cases o with
    | none => cases h
    | some c => cases h; exact ⟨c, rfl, rfl⟩
  cases dy with
  | lst ds =>
    have e2 : (inList dx ds).map (!·) = some b := by cases dx <;> exact e'
    obtain ⟨c, e3, rfl⟩ := red e2
    exact in_seq (neg := true) hu I l.sub px (.inl py) rx ry e3 (by simpa using q)
  | tup ds =>
    have e2 : (inList dx ds).map (!·) = some b := by cases dx <;> exact e'
    obtain ⟨c, e3, rfl⟩ := red e2
    exact in_seq (neg := true) hu I l.sub px (.inr py) rx ry e3 (by simpa using q)
  | str z =>
    cases dx with
    | str a =>
      cases e'
      rw [px.str] at rx; rw [py.str] at ry
      exact op_notin_str pins s σ H _ _ v u Q I rx ry ⟨a, z, rfl, rfl, q⟩
    | _ => cases e'
  | _ => cases dx <;> cases e'
theorem op_cmp (hu : X.A.units + 65 < cLine) (op : CmpOp) : OpR X (compareOp op) (rC2 X.K (cmpD op)) := by
  cases op
  case Eq => exact op_eq2 (by omega)
  case NotEq => exact op_ne2 (by omega)
  case Lt => exact op_lt2
  case LtE => exact op_le2
  case Gt => exact op_gt2
  case GtE => exact op_ge2
  case Is => exact op_is2
  case IsNot => exact op_isnot2
  case In => exact op_in2 hu
  case NotIn => exact op_notin2 hu
end
end Ev
set_option Elab.async false
set_option linter.all false
set_option maxRecDepth 100000
set_option maxHeartbeats 4000000
namespace Ev
open PySem PySem.Spec PyProof.Rows L2
open PySem.SeqAt
/-! ### a[i] -/
def ixD : D → D → Option D
  | .lst ds, .int i => atI ds i
  | .tup ds, .int i => atI ds i
  | .scr ns, .int i => (atI ns i).map .int
  | .str z, .int i => if z.length ≤ sizeLine then (atI z.cps.toList i).map fun c => .str ⟨#[c]⟩ else none
  | _, _ => none
theorem RelDs.atI {K : PySem.W.Frag} {H : Hp} {vs : List V} {ds : List D} (r : RelDs K H vs ds) {i : Int} {d : D} (h : atI ds i = some d) : ∃ v, atI vs i = some v ∧ RelD K H v d := by
  unfold L2.atI at h ⊢
  rw [r.length]
  cases e : ixN ds.length i with
  | none => rw [e] at h; cases h
  | some j =>
    rw [e] at h
    obtain ⟨v, h1, h2⟩ := r.get' (show ds[j]? = some d from h)
    exact ⟨v, h1, h2⟩
theorem atI_map {α β : Type} (f : α → β) {xs : List α} {i : Int} {d : α} (h : atI xs i = some d) : atI (xs.map f) i = some (f d) := by
  unfold atI at h ⊢
  rw [List.length_map]
  cases e : ixN xs.length i with
  | none => rw [e] at h; cases h
  | some j =>
    rw [e] at h
    have h' : xs[j]? = some d := h
    show (xs.map f)[j]? = some (f d)
    rw [List.getElem?_map, h']
    rfl
section
variable {X : Cx}
theorem ix_D : IxR X (rD2 X.K ixD) := by
  intro value slice pins s σ H x y v u Q I rx ry h hs
  obtain ⟨Hd, io, st, dx, dy, dz, l, px, py, e, q⟩ := h
  cases dx <;> cases dy <;> try (cases e; done)
  case lst.int ds i =>
    rw [py.int] at ry
    obtain ⟨p, vs, rfl, hp, r⟩ := px.list l.sub
    obtain ⟨z, h1, h2⟩ := r.atI (show atI ds i = some dz from e)
    exact ix_list value slice pins s σ H _ _ v u Q I rx ry ⟨p, vs, i, z, rfl, rfl, lq hp, h1, q.here l h2⟩ hs
  case tup.int ds i =>
    rw [py.int] at ry
    obtain ⟨p, vs, rfl, hp, r⟩ := px.tuple l.sub
    obtain ⟨z, h1, h2⟩ := r.atI (show atI ds i = some dz from e)
    exact ix_tup value slice pins s σ H _ _ v u Q I rx ry ⟨p, vs, i, z, rfl, rfl, hp, h1, q.here l h2⟩ hs
  case scr.int ns i =>
    rw [py.int] at ry
    obtain ⟨p, rfl, hp⟩ := px.scr l.sub
    have e' : (atI ns i).map D.int = some dz := e
    cases e2 : atI ns i with
    | none => rw [e2] at e'; cases e'
    | some n =>
      rw [e2] at e'; cases e'
      exact ix_list value slice pins s σ H _ _ v u Q I rx ry ⟨p, _, i, _, rfl, rfl, hp, atI_map V.int e2, q.here l (.int _)⟩ hs
  case str.int z i =>
    rw [px.str] at rx; rw [py.int] at ry
    have e' : (if z.length ≤ sizeLine then (atI z.cps.toList i).map fun c => D.str ⟨#[c]⟩ else none) = some dz := e
    by_cases hz : z.length ≤ sizeLine
    · rw [if_pos hz] at e'
      cases e2 : atI z.cps.toList i with
      | none => rw [e2] at e'; cases e'
      | some c =>
        rw [e2] at e'; cases e'
        exact ix_str value slice pins s σ H _ _ v u Q I rx ry ⟨z, i, c, rfl, rfl, hz, e2, q.here l (.str _)⟩ hs
    · rw [if_neg hz] at e'; cases e'
end
/-! ### a[lo:hi] -/
def cutG {α : Type} (xs : List α) (lo hi : Option Int) : List α := (xs.drop (HT.sIx xs.length 0 lo)).take (HT.sIx xs.length xs.length hi - HT.sIx xs.length 0 lo)
def slD (x : D) (lo hi : Option Int) : Option D := match x with
  | .lst ds => some (.lst (cutG ds lo hi))
  | .tup ds => some (.tup (cutG ds lo hi))
  | .scr ns => some (.lst ((cutG ns lo hi).map .int))
  | .str z => if z.length ≤ sizeLine then some (.str (cutS z lo hi)) else none
  | _ => none
theorem RelDs.cut {K : PySem.W.Frag} {H : Hp} {vs : List V} {ds : List D} (r : RelDs K H vs ds) (lo hi : Option Int) : RelDs K H (cutV vs lo hi) (cutG ds lo hi) := by
  unfold cutV cutG
  rw [r.length]
  exact (r.drop _).take _
theorem RelDs.ints {K : PySem.W.Frag} {H : Hp} : ∀ ns : List Int, RelDs K H (ns.map V.int) (ns.map D.int)
  | [] => .nil
  | n :: ns => .cons (.int n) (RelDs.ints ns)
theorem RelDs.strs {K : PySem.W.Frag} {H : Hp} : ∀ ns : List Str, RelDs K H (ns.map V.str) (ns.map D.str)
  | [] => .nil
  | n :: ns => .cons (.str n) (RelDs.strs ns)
theorem cutG_map {α β : Type} (f : α → β) (xs : List α) (lo hi : Option Int) : cutG (xs.map f) lo hi = (cutG xs lo hi).map f := by
  unfold cutG
  rw [List.length_map, List.map_take, List.map_drop]
def rSlD (K : PySem.W.Frag) : V → Option Int → Option Int → Hp → VK → Prop := fun x lo hi H Q => ∃ Hd io st dx dz, Rl K Hd io st H ∧ PkD K Hd H x dx ∧ slD dx lo hi = some dz ∧ Post K Hd io H (RelW K) Q (.ok (.d dz) st)
theorem cut_whole {α : Type} {xs : List α} {lo hi : Option Int} (h : HT.sIx xs.length 0 lo = 0 ∧ HT.sIx xs.length xs.length hi = xs.length) : cutG xs lo hi = xs := by
  unfold cutG
  rw [h.1, h.2]
  simp
section
variable {X : Cx}
theorem sl_D : SlR X (rSlD X.K) := by
  intro pins s σ H x v vl vu lo hi sl Q I rx hs pl pu h
  obtain ⟨Hd, io, st, dx, dz, l, px, e, q⟩ := h
  cases dx <;> try (cases e; done)
  case lst ds =>
    cases e
    obtain ⟨p, vs, rfl, hp, r⟩ := px.list l.sub
    exact sl_list pins s σ H _ v vl vu lo hi sl Q I rx hs pl pu ⟨p, vs, rfl, lq hp, fun b hb => q.newLst l (r.cut lo hi) hb⟩
  case scr ns =>
    cases e
    obtain ⟨p, rfl, hp⟩ := px.scr l.sub
    refine sl_list pins s σ H _ v vl vu lo hi sl Q I rx hs pl pu ⟨p, _, rfl, hp, fun b hb => q.newLst l ?_ hb⟩
    show RelDs X.K Hd (cutG (ns.map V.int) lo hi) _
    rw [cutG_map]
    exact RelDs.ints _
  case tup ds =>
    cases e
    obtain ⟨p, vs, rfl, hp, r⟩ := px.tuple l.sub
    have w1 : RelD X.K Hd (.ref p) (.tup ds) := by
      rcases px with px | ⟨_, _, _, _, e, _⟩
      · exact px
      · cases e
    refine sl_tupA pins s σ H _ v vl vu lo hi sl Q I rx hs pl pu ⟨p, vs, rfl, hp, fun hw => ?_, fun _ b hb => q.newTup l (r.cut lo hi) hb⟩
    rw [r.length] at hw
    rw [cut_whole hw] at q
    exact q.here l w1
  case str z =>
    rw [px.str] at rx
    have e' : (if z.length ≤ sizeLine then some (D.str (cutS z lo hi)) else none) = some dz := e
    by_cases hz : z.length ≤ sizeLine
    · rw [if_pos hz] at e'
      cases e'
      exact sl_str pins s σ H _ v vl vu lo hi sl Q I rx hs pl pu ⟨z, rfl, hz, q.here l (.str _)⟩
    · rw [if_neg hz] at e'; cases e'
end
/-! ### isinstance -/
inductive Ty where
  | int | bool | str | tuple | list | dict
def Ty.name : Ty → String
  | .int => "int" | .bool => "bool" | .str => "str" | .tuple => "tuple" | .list => "list" | .dict => "dict"
def isiD : D → Ty → Option Bool
  | .non, _ => some false
  | .bl _, .int => some true
  | .bl _, .bool => some true
  | .bl _, _ => some false
  | .int _, .int => some true
  | .int _, _ => some false
  | .str _, .str => some true
  | .str _, _ => some false
  | .lst _, .list => some true
  | .lst _, _ => some false
  | .scr _, .list => some true
  | .scr _, _ => some false
  | .tup _, .tuple => some true
  | .tup _, _ => some false
  | .dic _ _, .dict => some true
  | .dic _ _, _ => some false
  | .exv _ _ _, _ => none
def tyOf : D → String
  | .non => "NoneType" | .bl _ => "bool" | .int _ => "int" | .str _ => "str" | .lst _ => "list" | .scr _ => "list" | .tup _ => "tuple" | .dic _ _ => "dict" | .exv _ _ _ => ""
theorem kit_D : ∀ (d : D) (t : Ty) (b : Bool), isiD d t = some b → kitB (tyOf d) t.name = some b := by
  intro d t b h
  cases d <;> cases t <;> first | (cases h; done) | (cases h; first | rfl | decide +kernel)
theorem ty_D {K : PySem.W.Frag} {Hd H : Hp} {v : V} {d : D} (nx : ∀ c ks xs, d ≠ .exv c ks xs) (le : Le Hd H) (h : PkD K Hd H v d) : TyX K H v (.type (tyOf d)) := by
  have h' := h.rel le
  cases h' with
  | non => exact .base .non
  | bl b => exact .base (.bl b)
  | int i => exact .base (.int i)
  | str z => exact .base (.str z)
  | lst e _ => exact .base (.lst e)
  | dic e _ _ => exact .base (.dK e)
  | scr e =>
    rcases e with (e | ⟨o, e⟩) | ⟨o, its, n, e, c, _⟩
    · exact .base (.lst e)
    · exact .base (.frz e)
    · exact .kList e c
  | tup e _ =>
    rcases e with (e | ⟨o, e⟩) | ⟨o, its, n, e, c, _⟩
    · exact .base (.tup e)
    · exact .fTuple e
    · exact .kTuple e c
  | exv0 => exact absurd rfl (nx _ _ _)
  | exv => exact absurd rfl (nx _ _ _)
def rIsiD (K : PySem.W.Frag) (t : Ty) : List V → Hp → VK → Prop := fun xs H Q => ∃ x Hd d b, xs = [x, .ty t.name] ∧ Le Hd H ∧ PkD K Hd H x d ∧ isiD d t = some b ∧ Q (.bl b) H
theorem call_isiD {X : Cx} (t : Ty) : CallR X (.builtin "isinstance") (rIsiD X.K t) := by
  intro pins s σ H xs us Q I r h
  obtain ⟨x, Hd, d, b, rfl, le, px, e, q⟩ := h
  exact call_isi pins s σ H _ us Q I r ⟨x, _, _, _, b, rfl, .ty _, ty_D (fun c ks xs z => by subst z; cases e) le px, kit_ty (kit_D d t b e), q⟩
end Ev
set_option Elab.async false
set_option linter.all false
set_option maxRecDepth 100000
set_option maxHeartbeats 4000000
namespace Ev
open PySem PySem.Spec PyProof.Rows L2
open PySem.SeqAt
abbrev PkDs (K : PySem.W.Frag) (Hd H : Hp) : List V → List D → Prop := Paired fun v d => PkD K Hd H v d
def rBiD (K : PySem.W.Frag) (f : List D → Option D) : List V → Hp → VK → Prop := fun vs H Q => ∃ Hd io st ds d, Rl K Hd io st H ∧ PkDs K Hd H vs ds ∧ f ds = some d ∧ Post K Hd io H (RelW K) Q (.ok (.d d) st)
section
variable {K : PySem.W.Frag} {Hd H : Hp}
theorem PkDs.one {vs : List V} {d : D} (h : PkDs K Hd H vs [d]) : ∃ v, vs = [v] ∧ PkD K Hd H v d := by
  cases h with
  | cons a b => cases b; exact ⟨_, rfl, a⟩
theorem PkDs.two {vs : List V} {d e : D} (h : PkDs K Hd H vs [d, e]) : ∃ v u, vs = [v, u] ∧ PkD K Hd H v d ∧ PkD K Hd H u e := by
  cases h with
  | cons a b =>
    obtain ⟨u, rfl, c⟩ := PkDs.one b
    exact ⟨_, u, rfl, a, c⟩
end
def boolsOf : List D → Option (List Bool)
  | [] => some []
  | .bl b :: r => (boolsOf r).map (b :: ·)
  | _ :: _ => none
def intsOf : List D → Option (List Int)
  | [] => some []
  | .int b :: r => (intsOf r).map (b :: ·)
  | _ :: _ => none
def strsOf : List D → Option (List Str)
  | [] => some []
  | .str b :: r => (strsOf r).map (b :: ·)
  | _ :: _ => none
theorem boolsOf_ok : ∀ {ds : List D} {bs : List Bool}, boolsOf ds = some bs → ds = bs.map D.bl
  | [], _, h => by cases h; rfl
  | .bl b :: r, bs, h => by
    have h' : (boolsOf r).map (b :: ·) = some bs := h
    cases e : boolsOf r with
    | none => rw [e] at h'; cases h'
    | some cs => rw [e] at h'; cases h'; rw [boolsOf_ok e]; rfl
  | .non :: _, _, h => by cases h
  | .int _ :: _, _, h => by cases h
  | .str _ :: _, _, h => by cases h
  | .lst _ :: _, _, h => by cases h
  | .tup _ :: _, _, h => by cases h
  | .dic _ _ :: _, _, h => by cases h
  | .scr _ :: _, _, h => by cases h
  | .exv _ _ _ :: _, _, h => by cases h
theorem intsOf_ok : ∀ {ds : List D} {bs : List Int}, intsOf ds = some bs → ds = bs.map D.int
  | [], _, h => by cases h; rfl
  | .int b :: r, bs, h => by
    have h' : (intsOf r).map (b :: ·) = some bs := h
    cases e : intsOf r with
    | none => rw [e] at h'; cases h'
    | some cs => rw [e] at h'; cases h'; rw [intsOf_ok e]; rfl
  | .non :: _, _, h => by cases h
  | .bl _ :: _, _, h => by cases h
  | .str _ :: _, _, h => by cases h
  | .lst _ :: _, _, h => by cases h
  | .tup _ :: _, _, h => by cases h
  | .dic _ _ :: _, _, h => by cases h
  | .scr _ :: _, _, h => by cases h
  | .exv _ _ _ :: _, _, h => by cases h
theorem strsOf_ok : ∀ {ds : List D} {bs : List Str}, strsOf ds = some bs → ds = bs.map D.str
  | [], _, h => by cases h; rfl
  | .str b :: r, bs, h => by
    have h' : (strsOf r).map (b :: ·) = some bs := h
    cases e : strsOf r with
    | none => rw [e] at h'; cases h'
    | some cs => rw [e] at h'; cases h'; rw [strsOf_ok e]; rfl
  | .non :: _, _, h => by cases h
  | .bl _ :: _, _, h => by cases h
  | .int _ :: _, _, h => by cases h
  | .lst _ :: _, _, h => by cases h
  | .tup _ :: _, _, h => by cases h
  | .dic _ _ :: _, _, h => by cases h
  | .scr _ :: _, _, h => by cases h
  | .exv _ _ _ :: _, _, h => by cases h
theorem RelDs.of_bools {K : PySem.W.Frag} {H : Hp} : ∀ {bs : List Bool} {vs : List V}, RelDs K H vs (bs.map D.bl) → vs = bs.map V.bl
  | [], _, h => by cases h; rfl
  | b :: bs, _, h => by
    cases h with
    | cons a r => cases a; rw [RelDs.of_bools r]; rfl
theorem RelDs.of_ints {K : PySem.W.Frag} {H : Hp} : ∀ {bs : List Int} {vs : List V}, RelDs K H vs (bs.map D.int) → vs = bs.map V.int
  | [], _, h => by cases h; rfl
  | b :: bs, _, h => by
    cases h with
    | cons a r => cases a; rw [RelDs.of_ints r]; rfl
theorem RelDs.of_strs {K : PySem.W.Frag} {H : Hp} : ∀ {bs : List Str} {vs : List V}, RelDs K H vs (bs.map D.str) → vs = bs.map V.str
  | [], _, h => by cases h; rfl
  | b :: bs, _, h => by
    cases h with
    | cons a r => cases a; rw [RelDs.of_strs r]; rfl
/-! ### repr -/
mutual
def D.py : D → PyData
  | .non => .none | .bl b => .bool b | .int i => .int i | .str s => .str s
  | .lst xs => .list (D.pys xs) | .tup xs => .tuple (D.pys xs) | .dic _ _ => .none | .scr _ => .none | .exv _ _ _ => .none
def D.pys : List D → List PyData
  | [] => []
  | x :: xs => D.py x :: D.pys xs
end
mutual
theorem RelD.reads {X : Cx} {pins : List (Addr × Obj)} {σ : L2.St} {H : Hp} {s : Shared} (I : Inv X pins σ H s) : ∀ (d : D) (v : V) (u : Value), D.nod d = true → RelD X.K H v d → RelV v u → ∃ as, Reads s.heap u d.py as
  | .non, _, _, _, h, r => by cases h; cases r; exact ⟨_, .none⟩
  | .bl b, _, _, _, h, r => by cases h; cases r; exact ⟨_, .bool b⟩
  | .int i, _, _, _, h, r => by cases h; obtain ⟨t, rfl⟩ := r; exact ⟨_, .int i t⟩
  | .str i, _, _, _, h, r => by cases h; obtain ⟨t, rfl⟩ := r; exact ⟨_, .str i t⟩
  | .lst ds, _, _, n, h, r => by
    cases h with
    | lst a b =>
      cases r
      obtain ⟨its, rv, ⟨o, k, e1, e2, _, e3⟩, _⟩ := I.list (lq a)
      obtain ⟨as, q⟩ := RelDs.reads I ds _ its n b rv
      exact ⟨_, .list e1 e2 e3 q⟩
  | .tup ds, _, _, n, h, r => by
    cases h with
    | tup a b =>
      cases r
      obtain ⟨its, rv, ⟨o, e1, e2, k, e3⟩, _⟩ := I.tuple a
      obtain ⟨as, q⟩ := RelDs.reads I ds _ its n b rv
      exact ⟨_, .tuple e1 e2 e3 q⟩
  | .dic _ _, _, _, n, _, _ => by cases n
  | .scr _, _, _, n, _, _ => by cases n
  | .exv _ _ _, _, _, n, _, _ => by cases n
theorem RelDs.reads {X : Cx} {pins : List (Addr × Obj)} {σ : L2.St} {H : Hp} {s : Shared} (I : Inv X pins σ H s) : ∀ (d : List D) (v : List V) (u : List Value), D.nods d = true → RelDs X.K H v d → Vals v u → ∃ as, ReadsAll s.heap u (D.pys d) as
  | [], _, _, _, h, r => by cases h; cases r; exact ⟨_, .nil⟩
  | d :: ds, _, _, n, h, r => by
    have m := Bool.and_eq_true_iff.mp n
    cases h with
    | cons a b =>
      cases r with
      | cons r1 r2 =>
        obtain ⟨as, q1⟩ := RelD.reads I d _ _ m.1 a r1
        obtain ⟨bs, q2⟩ := RelDs.reads I ds _ _ m.2 b r2
        exact ⟨_, .cons q1 q2⟩
end
mutual
theorem py_noDict : ∀ d : D, d.py.hasDict = false
  | .non => rfl | .bl _ => rfl | .int _ => rfl | .str _ => rfl | .dic _ _ => rfl | .scr _ => rfl | .exv _ _ _ => rfl
  | .lst ds => by simp only [D.py, PyData.hasDict]; exact pys_noDict ds
  | .tup ds => by simp only [D.py, PyData.hasDict]; exact pys_noDict ds
theorem pys_noDict : ∀ d : List D, PyData.hasDictAll (D.pys d) = false
  | [] => rfl
  | d :: ds => by simp only [D.pys, PyData.hasDictAll, py_noDict d, pys_noDict ds, Bool.or_self]
end
def reprD (d : D) : Option D := if D.nod d = true ∧ d.py.showable = true ∧ d.py.shown.length ≤ sizeLine ∧ d.py.depth ≤ 60 then some (.str d.py.shown) else none
/-! ### the built-ins by name -/
inductive Bi where
  | len | all | any | sum | abs | int | str | repr | tuple | list
def Bi.name : Bi → Str
  | .len => "len" | .all => "all" | .any => "any" | .sum => "sum" | .abs => "abs" | .int => "int" | .str => "str" | .repr => "repr" | .tuple => "tuple" | .list => "list"
def Bi.val : Bi → Value
  | .len => .builtin "len" | .all => .builtin "all" | .any => .builtin "any" | .sum => .builtin "sum" | .abs => .builtin "abs" | .int => .type "int" | .str => .type "str" | .repr => .builtin "repr" | .tuple => .type "tuple" | .list => .type "list"
def blenD : List D → Option D
  | [.str z] => if z.length ≤ sizeLine then some (.int z.length) else none
  | [.lst ds] => some (.int ds.length)
  | [.tup ds] => some (.int ds.length)
  | [.scr ns] => some (.int ns.length)
  | _ => none
def ballD : List D → Option D
  | [.lst ds] => (boolsOf ds).map fun bs => .bl (bs.all id)
  | _ => none
def banyD : List D → Option D
  | [.lst ds] => (boolsOf ds).map fun bs => .bl (bs.any id)
  | _ => none
def bsumD : List D → Option D
  | [.lst ds] => (intsOf ds).map fun bs => .int bs.sum
  | [.scr ns] => some (.int ns.sum)
  | _ => none
def babsD : List D → Option D
  | [.int i] => some (.int (if i < 0 then -i else i))
  | _ => none
def bintD : List D → Option D
  | [.int i] => some (.int i)
  | [.bl b] => some (.int (if b then 1 else 0))
  | [.str a] => if a.length ≤ 640 then (PySem.intText? a).map .int else none
  | _ => none
def bstrD : List D → Option D
  | [.int i] => if i.natAbs.log2 < 1920 then some (.str (toString i)) else none
  | [.str a] => some (.str a)
  | _ => none
def breprD : List D → Option D
  | [d] => reprD d
  | _ => none
def btupleD : List D → Option D
  | [.lst ds] => some (.tup ds)
  | [.tup ds] => some (.tup ds)
  | _ => none
def blistD : List D → Option D
  | [.lst ds] => some (.lst ds)
  | [.tup ds] => some (.lst ds)
  | _ => none
def biD : Bi → List D → Option D
  | .len => blenD
  | .all => ballD
  | .any => banyD
  | .sum => bsumD
  | .abs => babsD
  | .int => bintD
  | .str => bstrD
  | .repr => breprD
  | .tuple => btupleD
  | .list => blistD
section
variable {X : Cx}
theorem bi_len : CallR X (.builtin "len") (rBiD X.K (biD .len)) := by
  intro pins s σ H xs us Q I r h
  obtain ⟨Hd, io, st, ds, d, l, p, e, q⟩ := h
  match ds, (show blenD ds = some d from e), p with
  | [.str z], e, p =>
    obtain ⟨v, rfl, pv⟩ := p.one
    rw [pv.str] at r
    have e' : (if z.length ≤ sizeLine then some (D.int z.length) else none) = some d := e
    by_cases hz : z.length ≤ sizeLine
    · rw [if_pos hz] at e'; cases e'
      exact call_len pins s σ H _ us Q I r ⟨_, _, rfl, ⟨hz, rfl⟩, q.here l (.int _)⟩
    · rw [if_neg hz] at e'; cases e'
  | [.lst es], e, p =>
    cases e
    obtain ⟨v, rfl, pv⟩ := p.one
    obtain ⟨a, vs, rfl, h1, h2⟩ := pv.list l.sub
    exact call_len_seq pins s σ H _ us Q I r ⟨a, vs, rfl, .inl (lq h1), by rw [h2.length]; exact q.here l (.int _)⟩
  | [.tup es], e, p =>
    cases e
    obtain ⟨v, rfl, pv⟩ := p.one
    obtain ⟨a, vs, rfl, h1, h2⟩ := pv.tuple l.sub
    exact call_len_seq pins s σ H _ us Q I r ⟨a, vs, rfl, .inr h1, by rw [h2.length]; exact q.here l (.int _)⟩
  | [.scr ns], e, p =>
    cases e
    obtain ⟨v, rfl, pv⟩ := p.one
    obtain ⟨a, rfl, h1⟩ := pv.scr l.sub
    exact call_len_seq pins s σ H _ us Q I r ⟨a, _, rfl, .inl h1, by rw [List.length_map]; exact q.here l (.int _)⟩
theorem bi_all (hc : X.calm = true) : CallR X (.builtin "all") (rBiD X.K (biD .all)) := by
  intro pins s σ H xs us Q I r h
  obtain ⟨Hd, io, st, ds, d, l, p, e, q⟩ := h
  match ds, (show ballD ds = some d from e), p with
  | [.lst es], e, p =>
    obtain ⟨v, rfl, pv⟩ := p.one
    obtain ⟨a, vs, rfl, h1, h2⟩ := pv.list l.sub
    have e' : (boolsOf es).map (fun bs => D.bl (bs.all id)) = some d := e
    cases eb : boolsOf es with
    | none => rw [eb] at e'; cases e'
    | some bs =>
      rw [eb] at e'; cases e'
      rw [boolsOf_ok eb] at h2
      have h3 := h2.of_bools
      subst h3
      exact cr_all hc pins s σ H _ us Q I r ⟨a, bs, rfl, lq h1, q.here l (.bl _)⟩
theorem bi_any (hc : X.calm = true) : CallR X (.builtin "any") (rBiD X.K (biD .any)) := by
  intro pins s σ H xs us Q I r h
  obtain ⟨Hd, io, st, ds, d, l, p, e, q⟩ := h
  match ds, (show banyD ds = some d from e), p with
  | [.lst es], e, p =>
    obtain ⟨v, rfl, pv⟩ := p.one
    obtain ⟨a, vs, rfl, h1, h2⟩ := pv.list l.sub
    have e' : (boolsOf es).map (fun bs => D.bl (bs.any id)) = some d := e
    cases eb : boolsOf es with
    | none => rw [eb] at e'; cases e'
    | some bs =>
      rw [eb] at e'; cases e'
      rw [boolsOf_ok eb] at h2
      have h3 := h2.of_bools
      subst h3
      exact cr_any hc pins s σ H _ us Q I r ⟨a, bs, rfl, lq h1, q.here l (.bl _)⟩
theorem bi_sum (hc : X.calm = true) : CallR X (.builtin "sum") (rBiD X.K (biD .sum)) := by
  intro pins s σ H xs us Q I r h
  obtain ⟨Hd, io, st, ds, d, l, p, e, q⟩ := h
  match ds, (show bsumD ds = some d from e), p with
  | [.lst es], e, p =>
    obtain ⟨v, rfl, pv⟩ := p.one
    obtain ⟨a, vs, rfl, h1, h2⟩ := pv.list l.sub
    have e' : (intsOf es).map (fun bs => D.int bs.sum) = some d := e
    cases eb : intsOf es with
    | none => rw [eb] at e'; cases e'
    | some bs =>
      rw [eb] at e'; cases e'
      rw [intsOf_ok eb] at h2
      have h3 := h2.of_ints
      subst h3
      exact cr_sum hc pins s σ H _ us Q I r ⟨a, bs, rfl, lq h1, q.here l (.int _)⟩
  | [.scr ns], e, p =>
    cases e
    obtain ⟨v, rfl, pv⟩ := p.one
    obtain ⟨a, rfl, h1⟩ := pv.scr l.sub
    exact cr_sum hc pins s σ H _ us Q I r ⟨a, ns, rfl, h1, q.here l (.int _)⟩
theorem bi_abs : CallR X (.builtin "abs") (rBiD X.K (biD .abs)) := by
  intro pins s σ H xs us Q I r h
  obtain ⟨Hd, io, st, ds, d, l, p, e, q⟩ := h
  match ds, (show babsD ds = some d from e), p with
  | [.int i], e, p =>
    cases e
    obtain ⟨v, rfl, pv⟩ := p.one
    rw [pv.int] at r
    exact call_abs pins s σ H _ us Q I r ⟨i, rfl, q.here l (.int _)⟩
theorem bi_int : CallR X (.type "int") (rBiD X.K (biD .int)) := by
  intro pins s σ H xs us Q I r h
  obtain ⟨Hd, io, st, ds, d, l, p, e, q⟩ := h
  match ds, (show bintD ds = some d from e), p with
  | [.int i], e, p =>
    cases e
    obtain ⟨v, rfl, pv⟩ := p.one
    rw [pv.int] at r
    exact call_int1 pins s σ H _ us Q I r (.inl ⟨i, rfl, q.here l (.int _)⟩)
  | [.bl b], e, p =>
    cases e
    obtain ⟨v, rfl, pv⟩ := p.one
    rw [pv.bl] at r
    exact call_int1 pins s σ H _ us Q I r (.inr ⟨b, rfl, q.here l (.int _)⟩)
  | [.str a], e, p =>
    obtain ⟨v, rfl, pv⟩ := p.one
    rw [pv.str] at r
    have e' : (if a.length ≤ 640 then (PySem.intText? a).map D.int else none) = some d := e
    by_cases hz : a.length ≤ 640
    · rw [if_pos hz] at e'
      cases ei : PySem.intText? a with
      | none => rw [ei] at e'; cases e'
      | some n =>
        rw [ei] at e'; cases e'
        exact call_int_str pins s σ H _ us Q I r ⟨a, n, rfl, ei, hz, q.here l (.int _)⟩
    · rw [if_neg hz] at e'; cases e'
theorem bi_str : CallR X (.type "str") (rBiD X.K (biD .str)) := by
  intro pins s σ H xs us Q I r h
  obtain ⟨Hd, io, st, ds, d, l, p, e, q⟩ := h
  match ds, (show bstrD ds = some d from e), p with
  | [.int i], e, p =>
    obtain ⟨v, rfl, pv⟩ := p.one
    rw [pv.int] at r
    have e' : (if i.natAbs.log2 < 1920 then some (D.str (toString i)) else none) = some d := e
    by_cases hz : i.natAbs.log2 < 1920
    · rw [if_pos hz] at e'; cases e'
      exact call_str_int pins s σ H _ us Q I r ⟨i, rfl, hz, q.here l (.str _)⟩
    · rw [if_neg hz] at e'; cases e'
  | [.str a], e, p =>
    cases e
    obtain ⟨v, rfl, pv⟩ := p.one
    rw [pv.str] at r
    exact SkE.call_str_str pins s σ H _ us Q I r ⟨a, rfl, q.here l (.str _)⟩
theorem bi_tuple : CallR X (.type "tuple") (rBiD X.K (biD .tuple)) := by
  intro pins s σ H xs us Q I r h
  obtain ⟨Hd, io, st, ds, d, l, p, e, q⟩ := h
  match ds, (show btupleD ds = some d from e), p with
  | [.lst es], e, p =>
    cases e
    obtain ⟨v, rfl, pv⟩ := p.one
    obtain ⟨a, vs, rfl, h1, h2⟩ := pv.list l.sub
    exact call_tuple_of pins s σ H _ us Q I r ⟨a, vs, rfl, .inl ⟨lq h1, fun b hb => q.newTup l h2 hb⟩⟩
  | [.tup es], e, p =>
    cases e
    obtain ⟨v, rfl, pv⟩ := p.one
    have pv' := pv
    obtain ⟨a, vs, rfl, h1, h2⟩ := pv.tuple l.sub
    have w1 : RelD X.K Hd (.ref a) (.tup es) := by
      rcases pv' with px | ⟨_, _, _, _, e, _⟩
      · exact px
      · cases e
    exact call_tuple_of pins s σ H _ us Q I r ⟨a, vs, rfl, .inr ⟨h1, q.here l w1⟩⟩
theorem bi_list : CallR X (.type "list") (rBiD X.K (biD .list)) := by
  intro pins s σ H xs us Q I r h
  obtain ⟨Hd, io, st, ds, d, l, p, e, q⟩ := h
  match ds, (show blistD ds = some d from e), p with
  | [.lst es], e, p =>
    cases e
    obtain ⟨v, rfl, pv⟩ := p.one
    obtain ⟨a, vs, rfl, h1, h2⟩ := pv.list l.sub
    exact call_list_of pins s σ H _ us Q I r ⟨a, vs, rfl, .inl (lq h1), fun b hb => q.newLst l h2 hb⟩
  | [.tup es], e, p =>
    cases e
    obtain ⟨v, rfl, pv⟩ := p.one
    obtain ⟨a, vs, rfl, h1, h2⟩ := pv.tuple l.sub
    exact call_list_of pins s σ H _ us Q I r ⟨a, vs, rfl, .inr h1, fun b hb => q.newLst l h2 hb⟩
theorem bi_repr (hg : X.A.guards = some []) (hu : X.A.units + 64 < cLine) : CallR X (.builtin "repr") (rBiD X.K (biD .repr)) := by
  intro pins s σ H xs us Q I r h
  obtain ⟨Hd, io, st, ds, d, l, p, e, q⟩ := h
  match ds, (show breprD ds = some d from e), p with
  | [y], e, p =>
    obtain ⟨v, rfl, pv⟩ := p.one
    obtain ⟨u, rfl, rx⟩ := vals1 r
    have e' : (if D.nod y = true ∧ y.py.showable = true ∧ y.py.shown.length ≤ sizeLine ∧ y.py.depth ≤ 60 then some (D.str y.py.shown) else none) = some d := e
    by_cases hz : D.nod y = true ∧ y.py.showable = true ∧ y.py.shown.length ≤ sizeLine ∧ y.py.depth ≤ 60
    · rw [if_pos hz] at e'; cases e'
      obtain ⟨z1, z2, z3, z4⟩ := hz
      have hv := pv.rel l.sub
      have hq := q.here l (.str _)
      have hsm : y.py.hasDict = true → ∀ as : List Addr, sysModules ∉ as := fun h => by rw [py_noDict] at h; cases h
      cases hv with
      | non => cases rx; exact PySem.P.repr_of_none ⟨.str _, H, I.tok _, ⟨_, rfl⟩, hq⟩
      | bl b => cases rx; exact PySem.P.repr_of_bool ⟨.str _, H, I.tok _, ⟨_, rfl⟩, hq⟩
      | int i => obtain ⟨t, rfl⟩ := rx; exact PySem.P.repr_of_int (of_decide_eq_true z2) ⟨.str _, H, I.tok _, ⟨_, rfl⟩, hq⟩
      | str a => obtain ⟨t, rfl⟩ := rx; exact PySem.P.repr_of_str ⟨.str _, H, I.tok _, ⟨_, rfl⟩, hq⟩ z3
      | lst h1 h2 =>
        obtain ⟨as, hr⟩ := RelD.reads I _ _ u z1 (.lst h1 h2) rx
        cases rx
        exact PySem.repr_of_reads' hr z2 (fun h => hsm h as) hg (by omega) (fun _ _ h => h) (fun h' t tk hk => ⟨.str _, H, I.kept hk, ⟨_, rfl⟩, hq⟩) z3
      | tup h1 h2 =>
        obtain ⟨as, hr⟩ := RelD.reads I _ _ u z1 (.tup h1 h2) rx
        cases rx
        exact PySem.repr_of_reads' hr z2 (fun h => hsm h as) hg (by omega) (fun _ _ h => h) (fun h' t tk hk => ⟨.str _, H, I.kept hk, ⟨_, rfl⟩, hq⟩) z3
      | dic => cases z1
      | scr => cases z1
      | exv0 => cases z1
      | exv => cases z1
    · rw [if_neg hz] at e'; cases e'
theorem bi_D (hc : X.calm = true) (hg : X.A.guards = some []) (hu : X.A.units + 64 < cLine) (b : Bi) : CallR X b.val (rBiD X.K (biD b)) := by
  cases b
  case len => exact bi_len
  case all => exact bi_all hc
  case any => exact bi_any hc
  case sum => exact bi_sum hc
  case abs => exact bi_abs
  case int => exact bi_int
  case str => exact bi_str
  case repr => exact bi_repr hg hu
  case tuple => exact bi_tuple
  case list => exact bi_list
end
end Ev
set_option Elab.async false
set_option linter.all false
set_option maxRecDepth 100000
set_option maxHeartbeats 4000000
namespace Ev
open PySem PySem.Spec PyProof.Rows L2
open PySem.SeqAt
/-! ### the methods of texts -/
def rMtD (K : PySem.W.Frag) (f : D → List D → Option D) : V → List V → Hp → VK → Prop := fun x vs H Q => ∃ Hd io st dx ds d, Rl K Hd io st H ∧ PkD K Hd H x dx ∧ PkDs K Hd H vs ds ∧ f dx ds = some d ∧ Post K Hd io H (RelW K) Q (.ok (.d d) st)
inductive Mt where
  | split | join | upper | index
def Mt.name : Mt → Str
  | .split => "split" | .join => "join" | .upper => "upper" | .index => "index"
def Mt.id : Mt → String
  | .split => "str.split" | .join => "str.join" | .upper => "str.upper" | .index => "str.index"
def msplitD : D → List D → Option D
  | .str a, [.str b] => if (b.length == 0) = false ∧ a.length + 2 ≤ sizeLine then some (.lst ((Txt.split a b).map .str)) else none
  | _, _ => none
def joinFits (a : Str) (ys : List Str) : Bool := decide ((ys.map (·.length)).sum + ys.length * a.length ≤ 16777216)
def joinD1 (a : Str) (ds : List D) : Option D := match strsOf ds with
  | some ys => if joinFits a ys = true then some (.str (Txt.join a ys)) else none
  | none => none
def mjoinD : D → List D → Option D
  | .str a, [.lst ds] => joinD1 a ds
  | .str a, [.tup ds] => joinD1 a ds
  | _, _ => none
def mupperD : D → List D → Option D
  | .str a, [] => if a.length ≤ 5592405 then some (.str (Txt.upper a)) else none
  | _, _ => none
def mindexD : D → List D → Option D
  | .str a, [.str b] => match Builtin.Str.occurrences a b 0 a.length 1 with
    | i :: _ => some (.int (i : Nat))
    | [] => none
  | _, _ => none
def mtD : Mt → D → List D → Option D
  | .split => msplitD
  | .join => mjoinD
  | .upper => mupperD
  | .index => mindexD
section
variable {X : Cx}
theorem mt_splitD : MtR X "str.split" (rMtD X.K msplitD) := by
  intro pins s σ H x xs v us Q I rx r h
  obtain ⟨Hd, io, st, dx, ds, d, l, px, p, e, q⟩ := h
  match dx, ds, e, px, p with
  | .str a, [.str b], e, px, p =>
    obtain ⟨z, rfl, pz⟩ := p.one
    rw [px.str] at rx; rw [pz.str] at r
    have e' : (if (b.length == 0) = false ∧ a.length + 2 ≤ sizeLine then some (D.lst ((Txt.split a b).map .str)) else none) = some d := e
    by_cases hz : (b.length == 0) = false ∧ a.length + 2 ≤ sizeLine
    · rw [if_pos hz] at e'; cases e'
      exact mt_split pins s σ H _ _ v us Q I rx r ⟨a, b, rfl, rfl, hz.1, hz.2, fun c hc => q.newLst l (RelDs.strs _) hc⟩
    · rw [if_neg hz] at e'; cases e'
theorem mt_joinD : MtR X "str.join" (rMtD X.K mjoinD) := by
  intro pins s σ H x xs v us Q I rx r h
  obtain ⟨Hd, io, st, dx, ds, d, l, px, p, e, q⟩ := h
  match dx, ds, e, px, p with
  | .str a, [.lst es], e, px, p =>
    obtain ⟨z, rfl, pz⟩ := p.one
    rw [px.str] at rx
    obtain ⟨c, vs, rfl, h1, h2⟩ := pz.list l.sub
    have e' : joinD1 a es = some d := e
    unfold joinD1 at e'
    cases eb : strsOf es with
    | none => rw [eb] at e'; cases e'
    | some ys =>
      rw [eb] at e'
      dsimp only at e'
      by_cases hz : joinFits a ys = true
      · rw [if_pos hz] at e'; cases e'
        rw [strsOf_ok eb] at h2
        have h3 := h2.of_strs
        subst h3
        exact mt_join pins s σ H _ _ v us Q I rx r ⟨a, c, ys, rfl, rfl, .inl (lq h1), of_decide_eq_true hz, q.here l (.str _)⟩
      · rw [if_neg hz] at e'; cases e'
  | .str a, [.tup es], e, px, p =>
    obtain ⟨z, rfl, pz⟩ := p.one
    rw [px.str] at rx
    obtain ⟨c, vs, rfl, h1, h2⟩ := pz.tuple l.sub
    have e' : joinD1 a es = some d := e
    unfold joinD1 at e'
    cases eb : strsOf es with
    | none => rw [eb] at e'; cases e'
    | some ys =>
      rw [eb] at e'
      dsimp only at e'
      by_cases hz : joinFits a ys = true
      · rw [if_pos hz] at e'; cases e'
        rw [strsOf_ok eb] at h2
        have h3 := h2.of_strs
        subst h3
        exact mt_join pins s σ H _ _ v us Q I rx r ⟨a, c, ys, rfl, rfl, .inr h1, of_decide_eq_true hz, q.here l (.str _)⟩
      · rw [if_neg hz] at e'; cases e'
theorem mt_upperD : MtR X "str.upper" (rMtD X.K mupperD) := by
  intro pins s σ H x xs v us Q I rx r h
  obtain ⟨Hd, io, st, dx, ds, d, l, px, p, e, q⟩ := h
  match dx, ds, e, px, p with
  | .str a, [], e, px, p =>
    cases p
    rw [px.str] at rx
    have e' : (if a.length ≤ 5592405 then some (D.str (Txt.upper a)) else none) = some d := e
    by_cases hz : a.length ≤ 5592405
    · rw [if_pos hz] at e'; cases e'
      exact mt_upper pins s σ H _ _ v us Q I rx r ⟨a, rfl, rfl, hz, q.here l (.str _)⟩
    · rw [if_neg hz] at e'; cases e'
theorem mt_indexD : MtR X "str.index" (rMtD X.K mindexD) := by
  intro pins s σ H x xs v us Q I rx r h
  obtain ⟨Hd, io, st, dx, ds, d, l, px, p, e, q⟩ := h
  match dx, ds, e, px, p with
  | .str a, [.str b], e, px, p =>
    obtain ⟨z, rfl, pz⟩ := p.one
    rw [px.str] at rx; rw [pz.str] at r
    have e' : (match Builtin.Str.occurrences a b 0 a.length 1 with
      | i :: _ => some (D.int (i : Nat))
      | [] => none) = some d := e
    cases eo : Builtin.Str.occurrences a b 0 a.length 1 with
    | nil => rw [eo] at e'; cases e'
    | cons i rest =>
      rw [eo] at e'; cases e'
      exact mt_sindex pins s σ H _ _ v us Q I rx r ⟨a, b, i, rest, rfl, rfl, eo, q.here l (.int _)⟩
theorem mt_D (m : Mt) : MtR X m.id (rMtD X.K (mtD m)) := by
  cases m
  case split => exact mt_splitD
  case join => exact mt_joinD
  case upper => exact mt_upperD
  case index => exact mt_indexD
theorem mtD_str {m : Mt} {x : D} {xs : List D} {d : D} (h : mtD m x xs = some d) : ∃ a, x = .str a := by
  cases x with
  | str a => exact ⟨a, rfl⟩
  | _ => cases m <;> cases xs <;> cases h
theorem slot_mt (m : Mt) : Slot "str" m.name m.id := by
  cases m
  case split => exact PySem.F.slot_str_split
  case join => exact PySem.F.slot_str_join
  case upper => exact PySem.F.slot_str_upper
  case index => exact PySem.F.slot_str_index
theorem type_mt (m : Mt) : typeOf (.builtin m.id) = pure (.type "method_descriptor") := by
  cases m
  case split => exact PySem.F.type_str_split
  case join => exact PySem.F.type_str_join
  case upper => exact PySem.F.type_str_upper
  case index => exact PySem.F.type_str_index
end
end Ev
set_option Elab.async false
set_option linter.all false
set_option maxRecDepth 100000
set_option maxHeartbeats 4000000
namespace Ev
open PySem PySem.Spec PyProof.Rows L2
open PySem.SeqAt
/-! ### a def's promise where nothing is being shown (repr's guards are empty) -/
structure FnG (P : Program) (w : World) (K : PySem.W.Frag) (mg : Str → Option Value) (base : Heap) (k : Nat) (f : Addr) (fd : FuncData) (ps : List Str) (sp : Sp) : Prop where
  len : ∀ vs H Q E, sp vs H Q E → vs.length = ps.length
  run : ∀ (Ar : Around) (fr : List Env) (sh : Shared) (Ha : Hp) (ar : Args) (us : List Value) (vs : List V) (Q : VK) (E : XK), Room k Ar → Ar.guards = some [] → Env0 P w K mg base Ar fr sh Ha → BindsTo sh fd ar (ps.zip us) → Vals vs us → sp vs Ha Q E →
    codeAny (model P w) Ar (.call (.ref f) ar) (CR (L2.CX P w) fr P w Ha sh Q E) sh
theorem FnG.mono {P : Program} {w : World} {K : PySem.W.Frag} {mg : Str → Option Value} {base : Heap} {j k : Nat} {f : Addr} {fd : FuncData} {ps : List Str} {sp : Sp} (F : FnG P w K mg base j f fd ps sp) (h : j ≤ k) :
    FnG P w K mg base k f fd ps sp := ⟨F.len, fun Ar fr sh Ha ar us vs Q E hr => F.run Ar fr sh Ha ar us vs Q E (hr.mono h)⟩
theorem fnG_of {P : Program} {w : World} {K : PySem.W.Frag} {mg : Str → Option Value} {base : Heap} {k : Nat} {x qual : Str} {params : Arguments} {body : List Stmt} {scope : Scope} {dvs : List V} {kws : List (Str × V)} {f : Addr} {fd : FuncData}
    {N ps : List Str} {sp : Sp} (F : FunD K x qual params body scope dvs kws f fd) (S : FnScope N ps scope) (len : ∀ vs H Q E, sp vs H Q E → vs.length = ps.length)
    (hbody : ∀ (cdv : Value) (Ar : Around) (fr : List Env) (sh : Shared) (Ha : Hp) (vs : List V) (Q : VK) (E : XK), Room k (Ar.deeper (envOfC qual scope sh.heap.objs.size f cdv)) → Ar.guards = some [] → sp vs Ha Q E →
      ∃ t, PSs (cxOf (L2.CX P w) P w K mg base N qual scope f cdv Ar fr sh Ha E) body t ∧ t { nx := fun _ H' => Q .non H', rt := Q } (start N vs) Ha) : FnG P w K mg base (k + 1) f fd ps sp := by
  obtain ⟨oc, od, dV, kV, doc, pm, an, cdv, ct, osl, rfl, lk, hcd, _, _⟩ := F.ex
  refine ⟨len, fun Ar fr sh Ha ar us vs Q E hr hgd ev hb rel want => ?_⟩
  have hl := len _ _ _ _ want
  have old : ∀ b o, base.get? b = some o → sh.heap.get? b = some o := fun b o e => (ev.bs b o e).1
  have KX : K.In sh.heap := ev.mod.kin.keeps old
  have here : ∀ y ∈ ps.zip us, scope.names.lookup y.1 = some .local ∨ (scope.names.lookup y.1 = some .cell ∧ ((cellsFrom (sh.heap.objs.size + 1) scope.names []).lookup y.1).isSome = true) := fun y hy => by
    rcases S.par y.1 (List.of_mem_zip (a := y.1) (b := y.2) hy).1 with q | q
    · exact .inl q
    · exact .inr ⟨q, PySem.W.cellsFrom_some _ _ _ (.inl q)⟩
  refine codeAny_call_function hr.depth (KX _ _ lk) rfl S.co S.gen rfl (PySem.W.codeRec_of KX hcd) (hb _ _ _ _ ?_)
  refine wpAny_newFunctionEnv_cells S.kind here fun env he s1 x1 => ?_
  subst he
  refine ⟨(ev.mod.nolimit.keeps old).keeps x1.toInCall.keep, codeAny_func ?_⟩
  obtain ⟨t, ht, hq⟩ := hbody cdv Ar fr sh Ha vs Q E (hr.deeper _) hgd want
  have I0 := inv_start (CX := L2.CX P w) (E := E) (N := N) S hr.hd ev hl rel x1
  refine wpAny_mono (ht.run [] s1 (start N vs) Ha _ I0 hq) (fun fl s' hs => ?_) fun e s' hs => hs
  cases fl with
  | ret u =>
    obtain ⟨v, sg, H', J, rv, q⟩ := hs
    exact ⟨v, H', J.os, J.bare, J.base, J.hok, rv, q⟩
  | next =>
    obtain ⟨sg, H', J, q⟩ := hs
    exact ⟨V.non, H', J.os, J.bare, J.base, J.hok, rfl, q⟩
  | brk =>
    obtain ⟨_, _, _, q⟩ := hs
    exact q.elim
  | cont =>
    obtain ⟨_, _, _, q⟩ := hs
    exact q.elim
section
variable {X : Cx} {k : Nat} {f : Addr} {fd : FuncData} {ps : List Str} {sp : Sp} {W : WX} {x : Str} {p pos : Pos} {e : Expr} {es : List Expr} {t : TA} {ds : List Value} {dvs : List V}
def tCallG (sp : Sp) (dvs : List V) (W : WX) (t : TA) : TE := fun σ H Q => t σ H fun vs H1 => sp (vs ++ dvs) H1 Q fun cls d H2 => W cls d σ H2
theorem run_fnG {pins : List (Addr × Obj)} {σ : L2.St} {H : Hp} {s : Shared} {Q : VK} {us : List Value} {vs : List V} (F : FnG X.prog X.w X.K X.mg X.base k f fd ps sp) (hr : Room k X.A) (hgd : X.A.guards = some []) (hb : Binds X.K fd ps ds) (hd : Vals dvs ds) (tk : Takes X W)
    (I : Inv X pins σ H s) (r : Vals vs us) (h : sp (vs ++ dvs) H Q fun cls d H2 => W cls d σ H2) : wpAny (model X.prog X.w) X.A (call (.ref f) us) (EP X pins σ Q) X.xe s := by
  have rr := r.append hd
  have hl := F.len _ _ _ _ h
  refine wpAny_call (codeAny_mono (F.run X.A X.stack s H ⟨us, []⟩ (us ++ ds) (vs ++ dvs) Q _ hr hgd I.env0 (hb s us I.kIn (by rw [← rr.length]; exact hl)) rr h) fun rs s' hq => ?_)
  match rs, hq with
  | .error e, hq => exact passAt tk σ pins H s e s' I hq
  | .ok (.ret u), hq => exact I.after hq
  | .ok .next, hq => exact hq.elim
  | .ok .brk, hq => exact hq.elim
  | .ok .cont, hq => exact hq.elim
theorem pe_callG (F : FnG X.prog X.w X.K X.mg X.base k f fd ps sp) (hr : Room k X.A) (hgd : X.A.guards = some []) (hg : Gl X x) (hm : X.mg x = some (.ref f)) (hk : PySem.W.keepIn X.K (.ref f) = true) (hb : Binds X.K fd ps ds) (hd : Vals dvs ds) (tk : Takes X W)
    (ha : PA X (e :: es) t) (hdb : (x == ("__debug__" : Str)) = false) (he : starEach (e :: es) X.env = (false, eval e X.env) :: starEach es X.env) (hpl : (backTo pos (starEach es X.env)).any (·.1) = false) :
    PE X (.Call (.Name x p) (e :: es) [] pos) (tCallG sp dvs W t) := by
  refine ⟨fun pins s σ H Q I h => wpAny_Call_Name_kw (ld_glob I hg hm ?_ hdb)⟩
  refine PySem.W.callWith_K (h₀ := X.base) I.ok.mod.kin hk (thn (ha.run pos pins s σ H _ I h) fun us s1 ⟨vs, H1, I1, r, q⟩ => ⟨I1.kIn, ?_⟩) he hpl
  exact run_fnG F hr hgd hb hd tk I1 r q
theorem pe_callG0 (F : FnG X.prog X.w X.K X.mg X.base k f fd ps sp) (hr : Room k X.A) (hgd : X.A.guards = some []) (hg : Gl X x) (hm : X.mg x = some (.ref f)) (hk : PySem.W.keepIn X.K (.ref f) = true) (hb : Binds X.K fd ps ds) (hd : Vals dvs ds) (tk : Takes X W)
    (hdb : (x == ("__debug__" : Str)) = false) : PE X (.Call (.Name x p) [] [] pos) (tCallG sp dvs W tNil) := by
  refine ⟨fun pins s σ H Q I h => wpAny_Call_Name_kw (ld_glob I hg hm ?_ hdb)⟩
  exact PySem.W.callWith_K0 I.kIn hk (run_fnG (us := []) F hr hgd hb hd tk I .nil h)
end
/-! ### the law is called -/
theorem law_callG {P : Program} {w : World} {K : PySem.W.Frag} {mg mb : Str → Option Value} {k : Nat} {fa a : Addr} {fd : FuncData} {x : Str} {sp : Sp} {s1 : Shared} {vs : List Value} {ns : List Int}
    (KX : K.In s1.heap) (nG : s1.heap.Ns mainGlobals mg) (nB : s1.heap.Ns builtinsNs mb) (hbb : ∀ x : Str, x ≠ "__name__" → mb x = bootBuiltins x) (lim : s1.heap.NoLimit) (noG : s1.gens = #[])
    (ha : s1.heap.get? a = some { cls := .type "list", data := .seq vs.toArray }) (hi : IntsAre vs ns) (hl : ns.length ≤ sizeLine) (hr : Room k callerA)
    (F : ∀ base : Heap, K.In base → base.Ns mainGlobals mg → FnG P w K mg base k fa fd [x] sp) (hbind : ∀ (s : Shared) (u : Value), BindsTo s fd ⟨[u], []⟩ [(x, u)])
    (want : ∀ H : Hp, SqL K H a (ns.map V.int) → sp [.ref a] H (fun v _ => v = .bl true) fun _ _ _ => False) :
    codeAny (model P w) callerA (.call (.ref fa) ⟨[.ref a], []⟩) (fun r s' => r = .ok (.ret (.bool true)) ∧ OldK s1.heap s'.heap ∧ s'.os = s1.os ∧ AllBare s'.gens) s1 := by
  have rv := vals_ints hi
  -- whatever of the script is tracked
  have main : ∀ Ha : Hp, (∀ b, Ha b = none ∨ ∃ o xs, Ha b = some (.frz o (.lst xs))) → SqL K Ha a (ns.map V.int) → HOk P w Ha s1.heap → (∀ b, Ha b ≠ none → b = a) → (Ha a ≠ none → K.lookup a = none) →
      codeAny (model P w) callerA (.call (.ref fa) ⟨[.ref a], []⟩) (fun r s' => r = .ok (.ret (.bool true)) ∧ OldK s1.heap s'.heap ∧ s'.os = s1.os ∧ AllBare s'.gens) s1 := by
    intro Ha only hS ok isA isK
    have low : ∀ {b : Addr} {o : Obj}, s1.heap.get? b = some o → Ha b = none → (hidT s1.heap Ha).get? b = some o := fun e n => hidT_get e n
    have dictFree : ∀ {b : Addr} {o : Obj} {es : Array DictEntry} {ep : Nat}, s1.heap.get? b = some o → o.data = .dict es ep → Ha b = none := fun {b o es ep} e d => by
      cases q : Ha b with
      | none => rfl
      | some u =>
        obtain rfl : b = a := isA b (by rw [q]; simp)
        rw [ha] at e; cases e
        exact nomatch (show Data.seq vs.toArray _ = Data.dict es ep from d)
    have nsLow : ∀ {b : Addr} {m : Str → Option Value}, s1.heap.Ns b m → (hidT s1.heap Ha).Ns b m := fun ⟨o, es, ep, e, d, r⟩ => ⟨o, es, ep, low e (dictFree e d), d, r⟩
    have KL : K.In (hidT s1.heap Ha) := fun b o e => low (KX b o e) (by
      cases q : Ha b with
      | none => rfl
      | some u =>
        obtain rfl : b = a := isA b (by rw [q]; simp)
        rw [isK (by rw [q]; simp)] at e; cases e)
    have hM : Mod K mg (hidT s1.heap Ha) := ⟨KL, nsLow nG, ⟨mb, nsLow nB, hbb⟩, let ⟨mc, h1, h2⟩ := lim; ⟨mc, nsLow h1, h2⟩⟩
    have noFr : ∀ b ∈ frs ([] : List Env), Ha b = none := fun b hb => absurd (show b ∈ ([] : List Addr) from hb) (by simp)
    have ev : Env0 P w K mg (hidT s1.heap Ha) callerA [] s1 Ha := ⟨rfl, hM, fun b o e => of_hidT e, Nat.le_of_eq (hidT_size _ _), trivial, noFr, ok, .of_eq noG⟩
    refine codeAny_mono ((F _ KL (nsLow nG)).run callerA [] s1 Ha ⟨[.ref a], []⟩ [.ref a] [.ref a] _ _ hr rfl ev (hbind s1 (.ref a)) (.cons rfl .nil) (want Ha hS)) fun r s' h => ?_
    match r, h with
    | .error e, h =>
      obtain ⟨_, _, _, _, _, _, _, _, _, _, _, _, z⟩ := h
      exact z.elim
    | .ok .next, h => exact h.elim
    | .ok .brk, h => exact h.elim
    | .ok .cont, h => exact h.elim
    | .ok (.ret u), h =>
      obtain ⟨v, H', os, bare, un, ok', r', q⟩ := h
      obtain rfl : v = .bl true := q
      obtain rfl : u = Value.bool true := r'
      refine ⟨rfl, OldK.of_keep fun b o e => ?_, os, bare⟩
      have noB : b ∉ frs ([] : List Env) := fun z => absurd (show b ∈ ([] : List Addr) from z) (by simp)
      rcases only b with z | ⟨ob, xs, z⟩
      · exact un.keep b o e z noB (by simp)
      · obtain ⟨e1, _⟩ := ok b _ z
        obtain ⟨e2, _⟩ := ok' b _ (un.frzs b ob _ z)
        rw [e] at e1; cases e1
        exact e2
  cases hk : K.lookup a with
  | some o =>
    have e := KX a o hk
    rw [ha] at e; cases e
    have nothing : ¬ (none : Option HO) ≠ none := fun z => z rfl
    refine main (fun _ => none) (fun _ => .inl rfl) (.inr ⟨_, vs.toArray, _, hk, rfl, rfl, rfl, ?_, by simpa using rv⟩) (fun b u z => nomatch z) (fun b z => (nothing z).elim) fun z => (nothing z).elim
    rw [List.size_toArray, hi.length]
    exact hl
  | none =>
    let sc : HO := .frz { cls := .type "list", data := .seq vs.toArray } (.lst (ns.map V.int))
    have at_ : ∀ b, (fun b => if b = a then some sc else none) b = if b = a then some sc else none := fun _ => rfl
    refine main (fun b => if b = a then some sc else none) (fun b => ?_) (.inl (.inr ⟨_, if_pos rfl⟩)) (fun b u z => ?_) (fun b z => ?_) fun _ => hk
    · by_cases hb : b = a
      · exact .inr ⟨_, _, if_pos hb⟩
      · exact .inl (if_neg hb)
    · by_cases hb : b = a
      · subst hb
        cases (if_pos rfl).symm.trans z
        exact ⟨ha, by rw [List.length_map]; exact hl, vs, _, rv, ha⟩
      · cases (if_neg hb).symm.trans z
    · by_cases hb : b = a
      · exact hb
      · exact absurd (if_neg hb) z
theorem walk_ofG {l : PySem.W.OpenLaw} {n k : Nat} {q : Program} {loose : List Str} {XP : (Str → Option Value) → Heap → Prop} {YP : World → Heap → Prop} {d : DefRec} {x : Str}
    (hn : l.most = some n) (hn2 : n ≤ sizeLine) (hdf : d.params.defaults = []) (hr : Room k callerA)
    (F : ∀ (w : World) (mg : Str → Option Value) (fa : Addr) (h : Heap), YP w h → h.Ns mainGlobals mg → mg d.name = some (.ref fa) →
      ∃ (K : PySem.W.Frag) (fd : FuncData) (sp : Sp), K.In h ∧ (∀ (s : Shared) (u : Value), BindsTo s fd ⟨[u], []⟩ [(x, u)]) ∧
        (∀ (H : Hp) (a : Addr) (ns : List Int), ns.length ≤ n → (∀ z ∈ ns, Builtin.Int.intBits z ≤ 1048576) → SqL K H a (ns.map V.int) → sp [.ref a] H (fun v _ => v = .bl true) fun _ _ _ => False) ∧
        ∀ base : Heap, K.In base → base.Ns mainGlobals mg → FnG l.prog w K mg base k fa fd [x] sp) :
    PySem.W.WalkO q loose XP YP l.row.toRowW d [] (fun f vs => PySem.call f vs) := by
  refine Att.attach_callB hn hdf fun w s0 s1 mg mb fa o pm cd doc a vs ns G Y ho hd hcd hmg hobj hints hlen hbits hg => ?_
  obtain ⟨K, fd, sp, KX, hb, hsp, hF⟩ := F w mg fa _ Y G.T.g hmg
  exact law_callG KX G.T.g G.T.b G.T.builtins G.T.nolimit hg hobj hints (Nat.le_trans hlen hn2) hr hF hb fun H hS => hsp H a ns hlen hbits hS
end Ev
set_option Elab.async false
set_option linter.all false
set_option maxRecDepth 100000
set_option maxHeartbeats 4000000
namespace Ev
open PySem PySem.Spec PyProof.Rows L2
/-! ### the language -/
inductive T where
  | nm (i : Nat) | nil | cons (t r : T)
mutual
inductive M where
  | var (i : Nat) | glob (x : Str) | non | bl (b : Bool) | int (i : Int) | str (s : Str)
  | bin (op : Operator) (a b : M) | neg (a : M)
  | cmp (op : CmpOp) (a b : M) | chain (op op' : CmpOp) (a b c : M)
  | and2 (a b : M) | or2 (a b : M) | not (a : M) | ite (c a b : M)
  | tup (es : Ms) | lst (es : Ms) | nlst | dic (ks : List Str) (vs : Ms) | ndic
  | dget (d k : M) | sub (a i : M) | slc (a lo hi : M) | absent
  | bi (b : Bi) (es : Ms) | isi (a : M) (t : Ty) | mth (m : Mt) (o : M) (es : Ms)
  | callP (f : Str) (es : Ms) | callS (f : Str) (es : Ms)
  | tix (x : Str) (e : M) | lstc (es : Ms) | addc (a b : M) | kin (neg : Bool) (k d : M)
  | new (c : Str) (es : Ms) | meth (o : M) (m : Str) (es : Ms)
  | mk (c : Str) (es : Ms) | fld (o : M) (f : Str) | isx (a : M) (y : Str)
  | lc (own : List Nat) (t : T) (it : I) (c e : M)
inductive Ms where
  | nil | cons (e : M) (r : Ms)
inductive I where
  | it (e : M) | rng1 (a : M) | rng2 (a b : M) | enm (e : M) | zip (a b : M)
end
abbrev Ro := List (Option W)
/-- what names of the module are worth: constants, defs on data, defs on the store -/
structure Gt where
  con : Str → Option D
  fp : Str → Option (List D → Option (Except Xv D))
  fs : Str → Option (List W → Store → R W)
  /-- classes of the program: made, methods, fields -/
  ini : Str → Option (List W → Store → R W)
  meth : Str → Str → Option (List W → Store → R W)
  cfl : Str → Str → Bool
  tix : Str → Option (List Str)
  mke : Str → Option Mk
  sub : Str → Str → Option Bool
  exm : Str → Str → Option Bool
  fld : Str → Str → Bool
def idxS (z : Str) : List Str → Option Nat
  | [] => none
  | y :: ys => if y = z then some 0 else (idxS z ys).map (· + 1)
def mkD (c : Str) : Mk → List D → Option D
  | .own, ds => if ds.length ≤ 1000 then some (.exv c [] []) else none
  | .ini f fs, ds => if ds.length = (f :: fs).length ∧ ds.length ≤ 1000 then some (.exv c (f :: fs).reverse ds.reverse) else none
def lookF : List Str → List D → Str → Option D
  | k :: ks, x :: xs, f => if f = k then some x else lookF ks xs f
  | _, _, _ => none
def look1 {α : Type} : List (Str × α) → Str → Option α
  | [], _ => none
  | (y, a) :: r, x => if x = y then some a else look1 r x
def putFW (f : Str) (w : W) : List (Str × W) → List (Str × W)
  | [] => [(f, w)]
  | (g, x) :: r => if g = f then (g, w) :: r else (g, x) :: putFW f w r
def fldD (G : Gt) (f : Str) (st : Store) : W → Option W
  | .d (.exv c ks xs) => if G.fld c f = true then (lookF ks xs f).map W.d else none
  | .cell n => (match st[n]? with
    | some (.obj c fs) => if G.cfl c f = true then look1 fs f else none
    | _ => none)
  | _ => none
def okW (o : Option W) (st : Store) : R W := match o with
  | some w => .ok w st
  | none => .bad
def newR (n : Nat) (r : R W) : R W := r.bind fun w st => match w with
  | .d .non => .ok (.cell n) st
  | _ => .bad
/-- what o.m is -/
def methF (G : Gt) (m : Str) (st : Store) : W → Option (Nat × (List W → Store → R W))
  | .cell n => (match st[n]? with
    | some (.obj c fs) => (match look1 fs m with
      | none => (G.meth c m).map fun F => (n, F)
      | some _ => none)
    | _ => none)
  | _ => none
def isxD (G : Gt) (y : Str) : W → Option Bool
  | .d (.exv c _ _) => G.sub c y
  | _ => none
mutual
def asgT : T → D → Ro → Option Ro
  | .nm i, d, ro => if i < ro.length then some (ro.set i (some (.d d))) else none
  | .nil, .tup [], ro => some ro
  | .cons t r, .tup (d :: ds), ro => (asgT t d ro).bind (asgTs r ds)
  | _, _, _ => none
def asgTs : T → List D → Ro → Option Ro
  | .nil, [], ro => some ro
  | .cons t r, d :: ds, ro => (asgT t d ro).bind (asgTs r ds)
  | _, _, _ => none
end
def D.truth : D → Option Bool
  | .non => some false
  | .bl b => some b
  | .int i => some (i != 0)
  | .str z => if z.length ≤ sizeLine then some ((z.length : Int) != 0) else none
  | .lst ds => some (!ds.isEmpty)
  | .tup ds => some (!ds.isEmpty)
  | .scr ds => some (!ds.isEmpty)
  | .dic ks _ => none
  | .exv _ _ _ => none
def truth (st : Store) (w : W) : Option Bool := (peek st w).bind D.truth
def peekAll (st : Store) : List W → Option (List D)
  | [] => some []
  | w :: r => (peek st w).bind fun d => (peekAll st r).map (d :: ·)
def keepAll : List W → Store → R (List D)
  | [], st => .ok [] st
  | w :: r, st => (keepD st w).bind fun d st1 => (keepAll r st1).bind fun ds st2 => .ok (d :: ds) st2
def okD (o : Option D) (st : Store) : R W := match o with
  | some d => .ok (.d d) st
  | none => .bad
def okE (o : Option (Except Xv D)) (st : Store) : R W := match o with
  | some (.ok d) => .ok (.d d) st
  | some (.error x) => .exc x st
  | none => .bad
def R.nox {α : Type} : R α → R α
  | .ok a st => .ok a st
  | .exc _ _ => .bad
  | .bad => .bad
def okB (o : Option Bool) (st : Store) : R W := match o with
  | some b => .ok (.d (.bl b)) st
  | none => .bad
def opt1 {α : Type} (st : Store) (a : W) (f : D → Option α) : Option α := (peek st a).bind f
def opt2 {α : Type} (st : Store) (a b : W) (f : D → D → Option α) : Option α := (peek st a).bind fun x => (peek st b).bind fun y => f x y
/-- a test's way -/
def R.tst {α : Type} (r : R W) (f : Bool → W → Store → R α) : R α := r.bind fun w st => match truth st w with
  | some b => f b w st
  | none => .bad
def keyOf : D → Option Key
  | .int i => some (.inl i)
  | .str s => some (.inr s)
  | _ => none
def lookK (kvs : List (Key × D)) (k : Key) : Option D := (kvs.find? fun kv => decide (kv.1 = k)).map (·.2)
def kinD (st : Store) (k d : W) : Option Bool := match d, k with
  | .cell n, .d kd => (match st[n]?, keyOf kd with
    | some (.dic kvs), some key => some (lookK kvs key).isSome
    | _, _ => none)
  | _, _ => none
def dgetD (st : Store) (a k : W) : Option D := match a, k with
  | .cell n, .d k => (match st[n]?, keyOf k with
    | some (.dic kvs), some key => lookK kvs key
    | _, _ => none)
  | _, _ => none
def itemsOf : D → Option (List D)
  | .lst ds => some ds
  | .tup ds => some ds
  | .scr ns => some (ns.map .int)
  | .str z => if z.length ≤ sizeLine then some (z.cps.toList.map fun c => .str ⟨#[c]⟩) else none
  | _ => none
def intsFrom (lo : Int) : Nat → List D
  | 0 => []
  | n + 1 => .int lo :: intsFrom (lo + 1) n
def enumFrom (i : Nat) : List D → List D
  | [] => []
  | d :: ds => .tup [.int i, d] :: enumFrom (i + 1) ds
def zipD : List D → List D → List D
  | a :: as, b :: bs => .tup [a, b] :: zipD as bs
  | _, _ => []
def enmD : D → Option (List D)
  | .lst ds => some (enumFrom 0 ds)
  | .tup ds => some (enumFrom 0 ds)
  | _ => none
def zipDD : D → D → Option (List D)
  | .lst ds, .lst es => some (zipD ds es)
  | .tup ds, .tup es => some (zipD ds es)
  | _, _ => none
def okL (o : Option (List D)) (st : Store) : R (List D) := match o with
  | some d => .ok d st
  | none => .bad
/-- a comprehension's turns -/
def lcRun (fc fe : Ro → Store → R W) (t : T) (ro : Ro) : List D → Store → List D → R (List D)
  | [], st, acc => .ok acc st
  | x :: r, st, acc => match asgT t x ro with
    | none => .bad
    | some ro1 => (fc ro1 st).tst fun b _ st1 => if b = true then (fe ro1 st1).bind fun w st2 => (keepD st2 w).bind fun d st3 => lcRun fc fe t ro r st3 (acc ++ [d]) else lcRun fc fe t ro r st1 acc
def part (m : M) (r : R W) (f : Option Int → Store → R W) (st : Store) : R W := match m with
  | .absent => f none st
  | _ => r.bind fun w st1 => match peek st1 w with
    | some (.int i) => f (some i) st1
    | _ => .bad
mutual
def ev (G : Gt) : M → Ro → Store → R W
  | .var i, ro, st => (match ro[i]? with
    | some (some w) => .ok w st
    | _ => .bad)
  | .glob x, _, st => okD (G.con x) st
  | .non, _, st => .ok (.d .non) st
  | .bl b, _, st => .ok (.d (.bl b)) st
  | .int i, _, st => .ok (.d (.int i)) st
  | .str z, _, st => .ok (.d (.str z)) st
  | .bin op a b, ro, st => (ev G a ro st).bind fun wa st1 => (ev G b ro st1).bind fun wb st2 => okD (opt2 st2 wa wb (binD op)) st2
  | .neg a, ro, st => (ev G a ro st).bind fun wa st1 => (match peek st1 wa with
    | some (.int i) => .ok (.d (.int (-i))) st1
    | _ => .bad)
  | .cmp op a b, ro, st => (ev G a ro st).bind fun wa st1 => (ev G b ro st1).bind fun wb st2 => okB (opt2 st2 wa wb (cmpD op)) st2
  | .chain op op' a b c, ro, st => (ev G a ro st).bind fun wa st1 => (ev G b ro st1).bind fun wb st2 => (match opt2 st2 wa wb (cmpD op) with
    | none => .bad
    | some false => .ok (.d (.bl false)) st2
    | some true => (ev G c ro st2).bind fun wc st3 => okB (opt2 st3 wb wc (cmpD op')) st3)
  | .and2 a b, ro, st => (ev G a ro st).tst fun k wa st1 => if k = true then ev G b ro st1 else .ok wa st1
  | .or2 a b, ro, st => (ev G a ro st).tst fun k wa st1 => if k = true then .ok wa st1 else ev G b ro st1
  | .not a, ro, st => (ev G a ro st).tst fun k _ st1 => .ok (.d (.bl (!k))) st1
  | .ite c a b, ro, st => (ev G c ro st).tst fun k _ st1 => if k = true then ev G a ro st1 else ev G b ro st1
  | .tup es, ro, st => (evs G es ro st).bind fun ws st1 => (keepAll ws st1).bind fun ds st2 => if ds.length ≤ 1000 then .ok (.d (.tup ds)) st2 else .bad
  | .lst es, ro, st => (evs G es ro st).bind fun ws st1 => (keepAll ws st1).bind fun ds st2 => if ds.length ≤ 1000 then .ok (.d (.lst ds)) st2 else .bad
  | .nlst, _, st => .ok (.cell st.length) (st ++ [.lst []])
  | .dic ks vs, ro, st => (evs G vs ro st).bind fun ws st1 => (keepAll ws st1).bind fun ds st2 => .ok (.cell st2.length) (st2 ++ [.dic ((ks.map Sum.inr).zip ds)])
  | .ndic, _, st => .ok (.cell st.length) (st ++ [.dic []])
  | .dget d k, ro, st => (ev G d ro st).bind fun wd st1 => (ev G k ro st1).bind fun wk st2 => okD (dgetD st2 wd wk) st2
  | .sub a i, ro, st => (ev G a ro st).bind fun wa st1 => (ev G i ro st1).bind fun wb st2 => okD (opt2 st2 wa wb ixD) st2
  | .slc a lo hi, ro, st => (ev G a ro st).bind fun wa st1 => part lo (ev G lo ro st1) (fun l st2 => part hi (ev G hi ro st2) (fun h st3 => okD ((peek st3 wa).bind fun x => slD x l h) st3) st2) st1
  | .absent, _, _ => .bad
  | .bi b es, ro, st => (evs G es ro st).bind fun ws st1 => okD ((peekAll st1 ws).bind (biD b)) st1
  | .isi a t, ro, st => (ev G a ro st).bind fun wa st1 => okB ((peek st1 wa).bind fun x => isiD x t) st1
  | .mth m o es, ro, st => (ev G o ro st).bind fun wo st1 => (match wo with
    | .d (.str z) => (evs G es ro st1).bind fun ws st2 => okD ((peekAll st2 ws).bind (mtD m (.str z))) st2
    | _ => .bad)
  | .callP f es, ro, st => (match G.fp f with
    | none => .bad
    | some F => (evs G es ro st).bind fun ws st1 => (keepAll ws st1).bind fun ds st2 => okE (F ds) st2)
  | .callS f es, ro, st => (match G.fs f with
    | none => .bad
    | some F => (evs G es ro st).bind fun ws st1 => F ws st1)
  | .tix x e, ro, st => (match G.tix x with
    | none => .bad
    | some ys => (ev G e ro st).bind fun we st1 => okD (match we with
      | .d (.str z) => (idxS z ys).map fun j => .int j
      | _ => none) st1)
  | .lstc es, ro, st => (evs G es ro st).bind fun ws st1 => (keepAll ws st1).bind fun ds st2 => if ds.length ≤ 1000 then .ok (.cell st2.length) (st2 ++ [.lst ds]) else .bad
  | .addc a b, ro, st => (ev G a ro st).bind fun wa st1 => (ev G b ro st1).bind fun wb st2 => (match peek st2 wa, peek st2 wb with
    | some (.lst xs), some (.lst ys) => if xs.length + ys.length ≤ sizeLine then .ok (.cell st2.length) (st2 ++ [.lst (xs ++ ys)]) else .bad
    | _, _ => .bad)
  | .kin neg k d, ro, st => (ev G k ro st).bind fun wk st1 => (ev G d ro st1).bind fun wd st2 => okB ((kinD st2 wk wd).map fun b => b != neg) st2
  | .mk c es, ro, st => (match G.mke c with
    | none => .bad
    | some k => (evs G es ro st).bind fun ws st1 => (keepAll ws st1).bind fun ds st2 => okD (mkD c k ds) st2)
  | .fld o f, ro, st => (ev G o ro st).bind fun wo st1 => okW (fldD G f st1 wo) st1
  | .new c es, ro, st => (match G.ini c with
    | none => .bad
    | some F => (evs G es ro st).bind fun ws st1 => newR st1.length (F (.cell st1.length :: ws) (st1 ++ [.obj c []])))
  | .meth o m es, ro, st => (ev G o ro st).bind fun wo st1 => (match methF G m st1 wo with
    | none => .bad
    | some (n, F) => (evs G es ro st1).bind fun ws st2 => F (.cell n :: ws) st2)
  | .isx a y, ro, st => (ev G a ro st).bind fun wo st1 => okB (isxD G y wo) st1
  | .lc own t it c e, ro, st => (evi G it ro st).bind fun items st1 => (lcRun (ev G c) (ev G e) t (wipeW ro own) items st1 []).nox.bind fun ds st2 => if items.length ≤ 1000000 then .ok (.d (.lst ds)) st2 else .bad
def evs (G : Gt) : Ms → Ro → Store → R (List W)
  | .nil, _, st => .ok [] st
  | .cons e r, ro, st => (ev G e ro st).bind fun w st1 => (evs G r ro st1).bind fun ws st2 => .ok (w :: ws) st2
def evi (G : Gt) : I → Ro → Store → R (List D)
  | .it e, ro, st => (ev G e ro st).bind fun w st1 => (keepD st1 w).bind fun d st2 => okL (itemsOf d) st2
  | .rng1 a, ro, st => (ev G a ro st).bind fun w st1 => (match peek st1 w with
    | some (.int j) => if -(2 ^ 62) ≤ j ∧ j < 2 ^ 20 then .ok (intsFrom 0 j.toNat) st1 else .bad
    | _ => .bad)
  | .rng2 a b, ro, st => (ev G a ro st).bind fun w st1 => (ev G b ro st1).bind fun u st2 => (match peek st2 w, peek st2 u with
    | some (.int i), some (.int j) => if -(2 ^ 20) ≤ i ∧ i < 2 ^ 20 ∧ -(2 ^ 20) ≤ j ∧ j < 2 ^ 20 then .ok (intsFrom i (j - i).toNat) st2 else .bad
    | _, _ => .bad)
  | .enm e, ro, st => (ev G e ro st).bind fun w st1 => (keepD st1 w).bind fun d st2 => okL (enmD d) st2
  | .zip a b, ro, st => (ev G a ro st).bind fun w st1 => (ev G b ro st1).bind fun u st2 => (keepD st2 w).bind fun d st3 => (keepD st3 u).bind fun e st4 => okL (zipDD d e) st4
end
/-! ### the text is this -/
def visB (sc : Scope) (x : Str) : Bool := match sc.names.lookup x with
  | some .local => true
  | some .cell => true
  | some .free => true
  | _ => false
def locB (sc : Scope) (x : Str) : Bool := match sc.names.lookup x with
  | some .local => true
  | some .cell => true
  | _ => false
def dbg (x : Str) : Bool := (x == ("__debug__" : Str))
def glB (sc : Scope) (x : Str) : Bool := decide (sc.names.lookup x = some .globalImplicit) && !dbg x
def noStar : Expr → Bool
  | .Starred _ _ => false
  | _ => true
def noSlice : Expr → Bool
  | .Slice _ _ _ _ => false
  | _ => true
def noSet : Expr → Bool
  | .Set _ _ _ => false
  | _ => true
def notBare : Expr → Bool
  | .Call _ [] [] _ => false
  | _ => true
mutual
def chkT (N : List Str) (og sc : Scope) : T → Expr → Bool
  | .nm i, .Name x _ => decide (N[i]? = some x) && locB sc x && (decide (sc.names.lookup x = some .local) || decide (og.names.lookup x = some .cell))
  | .nil, .Tuple [] _ _ => true
  | .cons t r, .Tuple (e :: es) _ _ => noStar e && chkT N og sc t e && chkTs N og sc r es
  | _, _ => false
def chkTs (N : List Str) (og sc : Scope) : T → List Expr → Bool
  | .nil, [] => true
  | .cons t r, e :: es => noStar e && chkT N og sc t e && chkTs N og sc r es
  | _, _ => false
end
def tIdx : T → List Nat
  | .nm i => [i]
  | .nil => []
  | .cons t r => tIdx t ++ tIdx r
def isTupE : Expr → Bool
  | .Tuple _ _ _ => true
  | _ => false
def wantTup : I → Bool
  | .enm _ => true
  | .zip _ _ => true
  | _ => false
def keysAre : List Str → List (Option Expr) → Bool
  | [], [] => true
  | k :: ks, some (.Constant (.str z) _ _) :: es => decide (k = z) && keysAre ks es
  | _, _ => false
def isAbsent : M → Bool
  | .absent => true
  | _ => false
def ownN (N : List Str) (own : List Nat) : List (Str × Nat) := own.map fun i => (N.getD i (Str.ofString ""), i)
mutual
def chk (N : List Str) : Scope → M → Expr → Bool
  | sc, .var i, .Name x _ => decide (N[i]? = some x) && visB sc x && !dbg x && !(x == ("__classdict__" : Str))
  | sc, .glob y, .Name x _ => decide (y = x) && glB sc x
  | _, .non, .Constant .none _ _ => true
  | _, .bl b, .Constant (.bool c) _ _ => b == c
  | _, .int b, .Constant (.int c) _ _ => decide (b = c)
  | _, .str b, .Constant (.str c) _ _ => decide (b = c)
  | sc, .bin op a b, .BinOp l o r _ => decide (op = o) && chk N sc a l && chk N sc b r
  | sc, .neg a, .UnaryOp .USub x _ => chk N sc a x
  | sc, .cmp op a b, .Compare l [o] [r] _ => decide (op = o) && chk N sc a l && chk N sc b r && noSet r
  | sc, .chain op op' a b c, .Compare l [o, o'] [x, y] _ => decide (op = o) && decide (op' = o') && chk N sc a l && chk N sc b x && chk N sc c y && noSet y
  | sc, .and2 a b, .BoolOp .And [x, y] _ => chk N sc a x && chk N sc b y
  | sc, .and2 a b, .BoolOp .And (x :: y :: z :: r) p => chk N sc a x && chk N sc b (.BoolOp .And (y :: z :: r) p)
  | sc, .or2 a b, .BoolOp .Or [x, y] _ => chk N sc a x && chk N sc b y
  | sc, .or2 a b, .BoolOp .Or (x :: y :: z :: r) p => chk N sc a x && chk N sc b (.BoolOp .Or (y :: z :: r) p)
  | sc, .not a, .UnaryOp .Not x _ => chk N sc a x
  | sc, .ite c a b, .IfExp t x y _ => chk N sc c t && chk N sc a x && chk N sc b y
  | sc, .tup es, .Tuple xs _ _ => chks N sc es xs
  | sc, .lst es, .List xs _ => chks N sc es xs
  | _, .nlst, .List [] _ => true
  | sc, .dic ks vs, .Dict keys vals _ => keysAre ks keys && chks N sc vs vals && decide (ks.Nodup) && decide (ks.length ≤ 15) && decide (ks.length = vals.length) && !ks.isEmpty
  | _, .ndic, .Dict [] [] _ => true
  | sc, .dget d k, .Subscript o i _ => chk N sc d o && chk N sc k i && noSlice i
  | sc, .sub d k, .Subscript o i _ => chk N sc d o && chk N sc k i && noSlice i
  | sc, .slc a lo hi, .Subscript o (.Slice l h none _) _ => chk N sc a o && (match l with
      | none => isAbsent lo
      | some e => !isAbsent lo && chk N sc lo e) && (match h with
      | none => isAbsent hi
      | some e => !isAbsent hi && chk N sc hi e)
  | sc, .bi b es, .Call (.Name x _) (e :: r) [] _ => decide (x = b.name) && glB sc x && chks N sc es (e :: r)
  | sc, .isi a t, .Call (.Name x _) [e, .Name y _] [] _ => decide (x = ("isinstance" : Str)) && glB sc x && glB sc y && decide (y = Str.ofString t.name) && chk N sc a e && noStar e
  | sc, .mth m o es, .Call (.Attribute x nm ap) [] [] cp => decide (nm = m.name) && (ap.endLine == cp.line) && notBare x && chk N sc o x && chks N sc es []
  | sc, .mth m o es, .Call (.Attribute x nm ap) (e :: r) [] cp => decide (nm = m.name) && (ap.endLine == cp.line) && notBare x && decide (r.length < 20) && chk N sc o x && chks N sc es (e :: r)
  | sc, .callP f es, .Call (.Name x _) xs [] _ => decide (x = f) && glB sc x && chks N sc es xs
  | sc, .callS f es, .Call (.Name x _) xs [] _ => decide (x = f) && glB sc x && chks N sc es xs
  | sc, .tix y e, .Call (.Attribute (.Name x _) nm ap) [a] [] cp => decide (x = y) && glB sc x && decide (nm = ("index" : Str)) && (ap.endLine == cp.line) && noStar a && chk N sc e a
  | sc, .lstc es, .List xs _ => chks N sc es xs
  | sc, .addc a b, .BinOp l o r _ => decide (o = .Add) && chk N sc a l && chk N sc b r
  | sc, .kin neg k d, .Compare l [o] [r] _ => decide (o = if neg = true then CmpOp.NotIn else CmpOp.In) && chk N sc k l && chk N sc d r && noSet r
  | sc, .mk c es, .Call (.Name x _) (e :: r) [] _ => decide (x = c) && glB sc x && chks N sc es (e :: r)
  | sc, .new c es, .Call (.Name x _) xs [] _ => decide (x = c) && glB sc x && chks N sc es xs
  | sc, .meth o m es, .Call (.Attribute x nm ap) xs [] cp => decide (nm = m) && (ap.endLine == cp.line) && notBare x && decide (xs.length < 20) && chk N sc o x && chks N sc es xs
  | sc, .fld o f, .Attribute x nm _ => decide (nm = f) && notBare x && chk N sc o x
  | sc, .isx a y, .Call (.Name x _) [e, .Name z _] [] _ => decide (x = ("isinstance" : Str)) && glB sc x && decide (z = y) && glB sc z && chk N sc a e && noStar e
  | sc, .lc own t it c e, .ListComp elt [g] scope _ => decide (g.is_async = 0) && chkT N scope (relS scope sc) t g.target && ((tIdx t).all fun i => own.contains i) && (!wantTup it || isTupE g.target) && chki N sc it g.iter && noSet g.iter && (match g.ifs with
      | [] => (match c with
        | .bl true => true
        | _ => false)
      | [x] => chk N (relS scope sc) c x
      | _ => false) && chk N (relS scope sc) e elt && blkC N sc scope (ownN N own)
  | _, _, _ => false
def chks (N : List Str) : Scope → Ms → List Expr → Bool
  | _, .nil, [] => true
  | sc, .cons m r, e :: es => noStar e && chk N sc m e && chks N sc r es
  | _, _, _ => false
def chki (N : List Str) : Scope → I → Expr → Bool
  | sc, .it m, e => chk N sc m e
  | sc, .rng1 a, .Call (.Name x _) [e] [] _ => decide (x = ("range" : Str)) && glB sc x && noStar e && chk N sc a e
  | sc, .rng2 a b, .Call (.Name x _) [e, f] [] _ => decide (x = ("range" : Str)) && glB sc x && noStar e && noStar f && chk N sc a e && chk N sc b f
  | sc, .enm a, .Call (.Name x _) [e] [] _ => decide (x = ("enumerate" : Str)) && glB sc x && noStar e && chk N sc a e
  | sc, .zip a b, .Call (.Name x _) [e, f] [] _ => decide (x = ("zip" : Str)) && glB sc x && noStar e && noStar f && chk N sc a e && chk N sc b f
  | _, _, _ => false
end
end Ev
set_option Elab.async false
set_option linter.all false
set_option maxRecDepth 100000
set_option maxHeartbeats 4000000
namespace Ev
open PySem PySem.Spec PyProof.Rows L2
/-! ### what a text asks of the state -/
abbrev EXT := Xv → Hp → List Addr → Store → Hp → Prop
def PX {α β : Type} (K : PySem.W.Frag) (EX : EXT) (Hd : Hp) (io : List Addr) (H : Hp) (Rel : Hp → List Addr → α → β → Prop) (Q : β → Hp → Prop) : R α → Prop
  | .ok w st' => ∀ v Hd' io' H', Ext Hd io H Hd' io' H' → Rl K Hd' io' st' H' → Rel Hd' io' w v → Q v H'
  | .exc x st' => ∀ Hd' io' H', Ext Hd io H Hd' io' H' → Rl K Hd' io' st' H' → EX x Hd' io' st' H'
  | .bad => False
section
variable {α β γ δ : Type} {K : PySem.W.Frag} {EX : EXT} {Hd : Hp} {io : List Addr} {H : Hp} {Rel : Hp → List Addr → α → β → Prop} {Rel2 : Hp → List Addr → γ → δ → Prop}
theorem PX.ext {Hd1 H1 : Hp} {io1 : List Addr} {Q : β → Hp → Prop} {r : R α} (e : Ext Hd io H Hd1 io1 H1) (h : PX K EX Hd io H Rel Q r) : PX K EX Hd1 io1 H1 Rel Q r := by
  cases r with
  | bad => exact h
  | exc x st => exact fun a b c e1 l1 => h a b c (e.trans e1) l1
  | ok w st => exact fun v a b c e1 l1 => h v a b c (e.trans e1) l1
theorem PX.imp {Q Q' : β → Hp → Prop} {r : R α} (h : PX K EX Hd io H Rel Q r) (k : ∀ v H', Q v H' → Q' v H') : PX K EX Hd io H Rel Q' r := by
  cases r with
  | bad => exact h
  | exc x st => exact h
  | ok w st => exact fun v a b c e1 l1 r1 => k v c (h v a b c e1 l1 r1)
theorem PX.bind {r : R α} {f : α → Store → R γ} {Q : δ → Hp → Prop} {Q1 : β → Hp → Prop} (h : PX K EX Hd io H Rel2 Q (r.bind f))
    (k : ∀ v H1 Hd1 io1 w st1, Ext Hd io H Hd1 io1 H1 → Rl K Hd1 io1 st1 H1 → Rel Hd1 io1 w v → PX K EX Hd1 io1 H1 Rel2 Q (f w st1) → Q1 v H1) : PX K EX Hd io H Rel Q1 r := by
  cases r with
  | bad => exact h
  | exc x st => exact h
  | ok w st1 => exact fun v Hd1 io1 H1 e1 l1 r1 => k v H1 Hd1 io1 w st1 e1 l1 r1 (PX.ext e1 h)
theorem PX.here {Q : β → Hp → Prop} {w : α} {st : Store} {v : β} (h : PX K EX Hd io H Rel Q (.ok w st)) (l : Rl K Hd io st H) (r : Rel Hd io w v) : Q v H := h v Hd io H Ext.refl l r
theorem PX.post {Q : β → Hp → Prop} {w : α} {st : Store} (h : PX K EX Hd io H Rel Q (.ok w st)) : Post K Hd io H Rel Q (.ok w st) := h
theorem PX.okD {Q : VK} {o : Option D} {st : Store} (h : PX K EX Hd io H (RelW K) Q (okD o st)) : ∃ d, o = some d ∧ Post K Hd io H (RelW K) Q (.ok (.d d) st) := by
  cases o with
  | none => exact h.elim
  | some d => exact ⟨d, rfl, h⟩
theorem PX.okB {Q : VK} {o : Option Bool} {st : Store} (h : PX K EX Hd io H (RelW K) Q (okB o st)) : ∃ d, o = some d ∧ Post K Hd io H (RelW K) Q (.ok (.d (.bl d)) st) := by
  cases o with
  | none => exact h.elim
  | some d => exact ⟨d, rfl, h⟩
end
theorem opt2_some {α : Type} {st : Store} {a b : W} {f : D → D → Option α} {z : α} (h : opt2 st a b f = some z) : ∃ x y, peek st a = some x ∧ peek st b = some y ∧ f x y = some z := by
  unfold opt2 at h
  cases ha : peek st a with
  | none => rw [ha] at h; cases h
  | some x =>
    rw [ha] at h
    cases hb : peek st b with
    | none => rw [hb] at h; cases h
    | some y => rw [hb] at h; exact ⟨x, y, rfl, rfl, h⟩
inductive RelWs (K : PySem.W.Frag) (Hd : Hp) (io : List Addr) : List W → List V → Prop
  | nil : RelWs K Hd io [] []
  | cons {w : W} {v : V} {ws : List W} {vs : List V} : RelW K Hd io w v → RelWs K Hd io ws vs → RelWs K Hd io (w :: ws) (v :: vs)
theorem RelWs.mono {K : PySem.W.Frag} {Hd Hd' H H' : Hp} {io io' : List Addr} (e : Ext Hd io H Hd' io' H') : ∀ {ws : List W} {vs : List V}, RelWs K Hd io ws vs → RelWs K Hd' io' ws vs
  | _, _, .nil => .nil
  | _, _, .cons h r => .cons (h.mono e) (RelWs.mono e r)
def RelB (_ : Hp) (_ : List Addr) (b : Bool) (c : Bool) : Prop := b = c
def RelDsv (K : PySem.W.Frag) (Hd : Hp) (_ : List Addr) (d : List D) (v : List V) : Prop := RelDs K Hd v d
theorem keepAll_ok {K : PySem.W.Frag} : ∀ {ws : List W} {vs : List V} {Hd : Hp} {io : List Addr} {st st' : Store} {H : Hp} {ds : List D}, Rl K Hd io st H → RelWs K Hd io ws vs → keepAll ws st = .ok ds st' →
    ∃ Hd', Ext Hd io H Hd' io H ∧ Rl K Hd' io st' H ∧ RelDs K Hd' vs ds
  | _, _, Hd, io, st, st', H, ds, l, .nil, h => by
    cases h
    exact ⟨Hd, Ext.refl, l, .nil⟩
  | _, _, Hd, io, st, st', H, ds, l, .cons (w := w) (ws := ws) hw r, h => by
    simp only [keepAll] at h
    cases h1 : keepD st w with
    | bad => rw [h1] at h; cases h
    | exc x s => rw [h1] at h; cases h
    | ok d st1 =>
      rw [h1, R.bind_ok] at h
      obtain ⟨Hd1, e1, l1, r1⟩ := keepD_ok l hw h1
      cases h2 : keepAll ws st1 with
      | bad => rw [h2] at h; cases h
      | exc x s => rw [h2] at h; cases h
      | ok ds2 st2 =>
        rw [h2, R.bind_ok] at h
        cases h
        obtain ⟨Hd2, e2, l2, r2⟩ := keepAll_ok l1 (r.mono e1) h2
        exact ⟨Hd2, e1.trans e2, l2, .cons (RelD.mono e2.hd r1) r2⟩
theorem keepD_bind {α β : Type} {K : PySem.W.Frag} {EX : EXT} {Hd : Hp} {io : List Addr} {H : Hp} {Rel : Hp → List Addr → α → β → Prop} {Q : β → Hp → Prop} {st : Store} {w : W} {v : V} {f : D → Store → R α} (l : Rl K Hd io st H) (r : RelW K Hd io w v) (h : PX K EX Hd io H Rel Q ((keepD st w).bind f)) :
    ∃ d Hd' st', Ext Hd io H Hd' io H ∧ Rl K Hd' io st' H ∧ RelD K Hd' v d ∧ PX K EX Hd' io H Rel Q (f d st') := by
  cases h1 : keepD st w with
  | bad => rw [h1] at h; exact h.elim
  | exc x s =>
    cases w with
    | d x => cases h1
    | cell n =>
      unfold keepD at h1
      dsimp only at h1
      split at h1 <;> cases h1
  | ok d st1 =>
    rw [h1, R.bind_ok] at h
    obtain ⟨Hd1, e1, l1, r1⟩ := keepD_ok l r h1
    exact ⟨d, Hd1, st1, e1, l1, r1, PX.ext e1 h⟩
theorem keepD_noexc {st : Store} {w : W} {x : Xv} {s : Store} (h1 : keepD st w = .exc x s) : False := by
  cases w with
  | d x => cases h1
  | cell n =>
    unfold keepD at h1
    dsimp only at h1
    split at h1 <;> cases h1
theorem keepAll_noexc : ∀ {ws : List W} {st : Store} {x : Xv} {s : Store}, keepAll ws st = .exc x s → False
  | [], _, _, _, h => by cases h
  | w :: ws, st, x, s, h => by
    simp only [keepAll] at h
    cases h1 : keepD st w with
    | bad => rw [h1] at h; cases h
    | exc x s => exact keepD_noexc h1
    | ok d st1 =>
      rw [h1, R.bind_ok] at h
      cases h2 : keepAll ws st1 with
      | bad => rw [h2] at h; cases h
      | exc x s => exact keepAll_noexc h2
      | ok ds st2 => rw [h2] at h; cases h
theorem keepAll_bind {α β : Type} {K : PySem.W.Frag} {EX : EXT} {Hd : Hp} {io : List Addr} {H : Hp} {Rel : Hp → List Addr → α → β → Prop} {Q : β → Hp → Prop} {st : Store} {ws : List W} {vs : List V} {f : List D → Store → R α} (l : Rl K Hd io st H) (r : RelWs K Hd io ws vs) (h : PX K EX Hd io H Rel Q ((keepAll ws st).bind f)) :
    ∃ ds Hd' st', Ext Hd io H Hd' io H ∧ Rl K Hd' io st' H ∧ RelDs K Hd' vs ds ∧ PX K EX Hd' io H Rel Q (f ds st') := by
  cases h1 : keepAll ws st with
  | bad => rw [h1] at h; exact h.elim
  | exc x s => exact (keepAll_noexc h1).elim
  | ok d st1 =>
    rw [h1, R.bind_ok] at h
    obtain ⟨Hd1, e1, l1, r1⟩ := keepAll_ok l r h1
    exact ⟨d, Hd1, st1, e1, l1, r1, PX.ext e1 h⟩
theorem peekAll_ok {K : PySem.W.Frag} {Hd : Hp} {io : List Addr} {st : Store} {H : Hp} (l : Rl K Hd io st H) : ∀ {ws : List W} {vs : List V} {ds : List D}, RelWs K Hd io ws vs → peekAll st ws = some ds → PkDs K Hd H vs ds
  | _, _, _, .nil, h => by cases h; exact .nil
  | _, _, _, .cons (w := w) (ws := ws) hw r, h => by
    simp only [peekAll] at h
    cases h1 : peek st w with
    | none => rw [h1] at h; cases h
    | some d =>
      rw [h1] at h
      cases h2 : peekAll st ws with
      | none => rw [h2] at h; cases h
      | some ds => rw [h2] at h; cases h; exact .cons (peek_ok l hw h1) (peekAll_ok l r h2)
/-! ### the contracts -/
abbrev IsX := Xv → Value → Option Addr → Hp → Prop
def eX (S : IsX) (W : WX) (σ : L2.St) : EXT := fun x Hd _ _ H => ∀ cls d, S x cls d Hd → W cls d σ H
def tM (S : IsX) (W : WX) (G : Gt) (K : PySem.W.Frag) (m : M) : TE := fun σ H Q => ∃ Hd io ro st, Rl K Hd io st H ∧ RelS K Hd io ro σ ∧ PX K (eX S W σ) Hd io H (RelW K) Q (ev G m ro st)
def tT (S : IsX) (W : WX) (G : Gt) (K : PySem.W.Frag) (m : M) : TT := fun σ H Q => ∃ Hd io ro st, Rl K Hd io st H ∧ RelS K Hd io ro σ ∧ PX K (eX S W σ) Hd io H RelB Q ((ev G m ro st).tst fun b _ st1 => .ok b st1)
def tMs (S : IsX) (W : WX) (G : Gt) (K : PySem.W.Frag) (m : Ms) : TA := fun σ H Q => ∃ Hd io ro st, Rl K Hd io st H ∧ RelS K Hd io ro σ ∧ PX K (eX S W σ) Hd io H (RelWs K) Q (evs G m ro st)
/-- a def on data -/
def spP (S : IsX) (K : PySem.W.Frag) (n : Nat) (F : List D → Option (Except Xv D)) : Sp := fun vs H Q E => vs.length = n ∧ ∃ Hd ds, Le Hd H ∧ RelDs K Hd vs ds ∧ (match F ds with
  | some (.ok d) => ∀ v Hd' H', Ext Hd [] H Hd' [] H' → Le Hd' H' → RelD K Hd' v d → Q v H'
  | some (.error x) => ∀ Hd' H' cls dx, Ext Hd [] H Hd' [] H' → Le Hd' H' → S x cls dx Hd' → E cls dx H'
  | none => False)
/-- a def on the store -/
def spS (S : IsX) (K : PySem.W.Frag) (n : Nat) (F : List W → Store → R W) : Sp := fun vs H Q E => vs.length = n ∧ ∃ Hd io st ws, Rl K Hd io st H ∧ RelWs K Hd io ws vs ∧ PX K (fun x Hd _ _ H => ∀ cls d, S x cls d Hd → E cls d H) Hd io H (RelW K) Q (F ws st)
structure FnP (X : Cx) (x : Str) (sp : Nat → Sp) : Prop where
  ok : ∃ k fa fd ps, FnG X.prog X.w X.K X.mg X.base k fa fd ps (sp ps.length) ∧ Room k X.A ∧ X.mg x = some (.ref fa) ∧ PySem.W.keepIn X.K (.ref fa) = true ∧ L2.Binds X.K fd ps [] ∧ ∃ n, ps.length = n
def blts : List Str := [("isinstance" : Str), ("range" : Str), ("enumerate" : Str), ("zip" : Str), ("len" : Str), ("all" : Str), ("any" : Str), ("sum" : Str), ("abs" : Str), ("int" : Str), ("str" : Str), ("repr" : Str), ("tuple" : Str), ("list" : Str), ("bool" : Str), ("dict" : Str)]
structure CtxOk (G : Gt) (N : List Str) (S : IsX) (W : WX) (sc : Scope) (X : Cx) : Prop where
  hN : X.N = N
  nd : N.Nodup
  hsc : X.env.scope = sc
  calm : X.calm = true
  tk : Takes X W
  gd : X.A.guards = some []
  room : X.A.units + 65 < cLine
  rm : Room 2 X.A
  hS : S = isXv X.K
  ini : ∀ c F, G.ini c = some F → ∃ n, (∀ ws st, F ws st ≠ .bad → ws.length = n) ∧ ∃ k f fd ps, ps.length = n ∧ L2.Mk X.K (He.ga X.K c) f ∧ FnG X.prog X.w X.K X.mg X.base k f fd ps (spS S X.K n F) ∧ Room (k + 1) X.A ∧ X.mg c = some (.ref (He.ga X.K c)) ∧ L2.Binds X.K fd ps []
  meth : ∀ c m F, G.meth c m = some F → ∃ n, (∀ ws st, F ws st ≠ .bad → ws.length = n) ∧ ∃ k f fd ps, ps.length = n ∧ L2.Cls X.K (He.ga X.K c) ∧ L2.Meth X.K (He.ga X.K c) m f ∧ FnG X.prog X.w X.K X.mg X.base k f fd ps (spS S X.K n F) ∧ Room k X.A ∧ L2.Binds X.K fd ps []
  cfl : ∀ c f, G.cfl c f = true → L2.Cls X.K (He.ga X.K c) ∧ L2.NoAttr X.K (He.ga X.K c) f
  tix : ∀ x ys, G.tix x = some ys → TixOk X.K X.mg x ys
  mke : ∀ x k, G.mke x = some k → MkOk X.prog X.w X.K X.mg X.base x k
  sub : ∀ x y b, G.sub x y = some b → SubOk X.K X.mg x y b
  exm : ∀ x y b, G.exm x y = some b → ExmOk X.K X.mg x y b
  fld : ∀ x f, G.fld x f = true → FldOk X.K x f
  con : ∀ x d, G.con x = some d → ∃ v u, X.mg x = some u ∧ L2.RelV v u ∧ ∀ Hd, RelD X.K Hd v d
  blt : ∀ x ∈ blts, X.mg x = none
  fp : ∀ x F, G.fp x = some F → ∃ n, (∀ ds y, F ds = some y → ds.length = n) ∧ ∃ k fa fd ps, ps.length = n ∧ FnG X.prog X.w X.K X.mg X.base k fa fd ps (spP S X.K n F) ∧ Room k X.A ∧ X.mg x = some (.ref fa) ∧ PySem.W.keepIn X.K (.ref fa) = true ∧ L2.Binds X.K fd ps []
  fs : ∀ x F, G.fs x = some F → ∃ n, (∀ ds st, F ds st ≠ .bad → ds.length = n) ∧ ∃ k fa fd ps, ps.length = n ∧ FnG X.prog X.w X.K X.mg X.base k fa fd ps (spS S X.K n F) ∧ Room k X.A ∧ X.mg x = some (.ref fa) ∧ PySem.W.keepIn X.K (.ref fa) = true ∧ L2.Binds X.K fd ps []
/-! ### weaker -/
theorem PEimp {X : Cx} {e : Expr} {t t' : TE} (h : PE X e t) (k : ∀ σ H Q, t' σ H Q → t σ H Q) : PE X e t' := ⟨fun pins s σ H Q I q => h.run pins s σ H Q I (k σ H Q q)⟩
theorem PTimp {X : Cx} {e : Expr} {t t' : TT} (h : PT X e t) (k : ∀ σ H Q, t' σ H Q → t σ H Q) : PT X e t' := ⟨fun pins s σ H Q I q => h.run pins s σ H Q I (k σ H Q q)⟩
theorem PWimp {X : Cx} {e : Expr} {t t' : TT} (h : PW X e t) (k : ∀ σ H Q, t' σ H Q → t σ H Q) : PW X e t' := ⟨fun wh pins s σ H Q I q => h.run wh pins s σ H Q I (k σ H Q q)⟩
theorem PAimp {X : Cx} {e : List Expr} {t t' : TA} (h : PA X e t) (k : ∀ σ H Q, t' σ H Q → t σ H Q) : PA X e t' := ⟨fun pos pins s σ H Q I q => h.run pos pins s σ H Q I (k σ H Q q)⟩
/-! ### the texts' shapes -/
theorem star_plain {e : Expr} {es : List Expr} {env : Env} (h : noStar e = true) : starEach (e :: es) env = (false, eval e env) :: starEach es env := by
  cases e <;> first | rfl | (cases h; done)
def noStars : List Expr → Bool
  | [] => true
  | e :: es => noStar e && noStars es
theorem star_none {env : Env} {pos : Pos} : ∀ {es : List Expr}, noStars es = true → ((backTo pos (starEach es env)).any fun x => x.1) = false
  | [], _ => rfl
  | e :: es, h => by
    simp only [noStars, Bool.and_eq_true] at h
    rw [star_plain h.1]
    have := star_none (env := env) (pos := pos) h.2
    unfold backTo at this ⊢
    simpa using this
theorem starAll {env : Env} {pos : Pos} : ∀ {es : List Expr}, noStars es = true → ((backTo pos (starEach es env)).all fun x => !x.1) = true
  | [], _ => rfl
  | e :: es, h => by
    simp only [noStars, Bool.and_eq_true] at h
    rw [star_plain h.1]
    have := starAll (env := env) (pos := pos) h.2
    unfold backTo at this ⊢
    simpa using this
theorem star_len {env : Env} {pos : Pos} : ∀ {es : List Expr}, (starEach es env).length = es.length
  | [] => rfl
  | e :: es => by
    cases e <;> simp [starEach, star_len (env := env) (pos := pos) (es := es)]
theorem plainIx_of {e : Expr} (h : noSlice e = true) : PlainIx e := by
  cases e <;> first | (intro o i; rfl) | (cases h; done)
theorem noSl_of {e : Expr} (h : noSlice e = true) : NoSl e := by
  cases e <;> first | (intro o i; rfl) | (cases h; done)
theorem chks_stars {N : List Str} {sc : Scope} : ∀ {m : Ms} {es : List Expr}, chks N sc m es = true → noStars es = true
  | .nil, [], _ => rfl
  | .nil, _ :: _, h => by simp [chks] at h
  | .cons m r, [], h => by simp [chks] at h
  | .cons m r, e :: es, h => by
    simp only [chks, Bool.and_eq_true] at h
    simp only [noStars, Bool.and_eq_true]
    exact ⟨h.1.1, chks_stars h.2⟩
theorem behind_of {op : CmpOp} {e : Expr} (h : noSet e = true) : behindInMarks op e = false := by
  cases e <;> first | (cases h; done) | (cases op <;> first | rfl | decide)
end Ev
set_option Elab.async false
set_option linter.all false
set_option maxRecDepth 100000
set_option maxHeartbeats 4000000
namespace Ev
open PySem PySem.Spec PyProof.Rows L2
def Snd (G : Gt) (N : List Str) (m : M) : Prop := ∀ (S : IsX) (Wx : WX) (sc : Scope) (X : Cx) (e : Expr), CtxOk G N S Wx sc X → chk N sc m e = true → PE X e (tM S Wx G X.K m) ∧ PT X e (tT S Wx G X.K m) ∧ ∀ op vs p, e = .BoolOp op vs p → PW X e (tT S Wx G X.K m)
def SndA (G : Gt) (N : List Str) (m : Ms) : Prop := ∀ (S : IsX) (Wx : WX) (sc : Scope) (X : Cx) (es : List Expr), CtxOk G N S Wx sc X → chks N sc m es = true → PA X es (tMs S Wx G X.K m)
variable {G : Gt} {N : List Str} {S : IsX} {Wx : WX} {sc : Scope} {X : Cx}
theorem truth_tru {K : PySem.W.Frag} {Hd : Hp} {io : List Addr} {st : Store} {H : Hp} (l : Rl K Hd io st H) {w : W} {v : V} {b : Bool} (r : RelW K Hd io w v) (h : truth st w = some b) : TruV K v H b := by
  unfold truth at h
  cases hp : peek st w with
  | none => rw [hp] at h; cases h
  | some d =>
    rw [hp] at h
    have h : D.truth d = some b := h
    have pk := peek_ok l r hp
    cases d with
    | non => rw [PkD.non pk]; cases h; exact rfl
    | bl c => rw [PkD.bl pk]; cases h; exact rfl
    | int i => rw [PkD.int pk]; cases h; exact rfl
    | str z =>
      rw [PkD.str pk]
      simp only [D.truth] at h
      split at h
      · rename_i hz
        cases h
        exact ⟨hz, rfl⟩
      · cases h
    | lst ds =>
      obtain ⟨a, vs, rfl, h1, h2⟩ := pk.list l.sub
      cases h
      refine Or.inl ⟨vs, .inl (.inl h1), ?_⟩
      cases h2 <;> rfl
    | tup ds =>
      obtain ⟨a, vs, rfl, h1, h2⟩ := pk.tuple l.sub
      cases h
      refine Or.inr (Or.inl ⟨vs, h1, ?_⟩)
      cases h2 <;> rfl
    | scr ns =>
      obtain ⟨a, rfl, h1⟩ := PkD.scr l.sub pk
      cases h
      refine Or.inl ⟨_, h1, ?_⟩
      cases ns <;> rfl
    | dic ks xs => cases h
    | exv _ _ _ => cases h
theorem tst_bind {α : Type} {r : R W} {f : Bool → W → Store → R α} : r.tst f = r.bind fun w st => match truth st w with
  | some b => f b w st
  | none => .bad := rfl
theorem PX.tst {α : Type} {β : Type} {K : PySem.W.Frag} {EX : EXT} {Hd : Hp} {io : List Addr} {H : Hp} {Rel2 : Hp → List Addr → α → β → Prop} {r : R W} {f : Bool → W → Store → R α} {Q : β → Hp → Prop} {Q1 : VK} (h : PX K EX Hd io H Rel2 Q (r.tst f))
    (k : ∀ v H1 Hd1 io1 w st1 b, Ext Hd io H Hd1 io1 H1 → Rl K Hd1 io1 st1 H1 → RelW K Hd1 io1 w v → TruV K v H1 b → PX K EX Hd1 io1 H1 Rel2 Q (f b w st1) → Q1 v H1) : PX K EX Hd io H (RelW K) Q1 r := by
  rw [tst_bind] at h
  refine PX.bind h fun v H1 Hd1 io1 w st1 e1 l1 r1 h1 => ?_
  cases ht : truth st1 w with
  | none => rw [ht] at h1; exact h1.elim
  | some b =>
    rw [ht] at h1
    exact k v H1 Hd1 io1 w st1 b e1 l1 r1 (truth_tru l1 r1 ht) h1
theorem PX.tstB {α : Type} {β : Type} {K : PySem.W.Frag} {EX : EXT} {Hd : Hp} {io : List Addr} {H : Hp} {Rel2 : Hp → List Addr → α → β → Prop} {r : R W} {f : Bool → W → Store → R α} {Q : β → Hp → Prop} {Q1 : Bool → Hp → Prop} (hf : ∀ b w st w' , f b w st = f b w' st) (h : PX K EX Hd io H Rel2 Q (r.tst f))
    (k : ∀ H1 Hd1 io1 w st1 b, Ext Hd io H Hd1 io1 H1 → Rl K Hd1 io1 st1 H1 → PX K EX Hd1 io1 H1 Rel2 Q (f b w st1) → Q1 b H1) : PX K EX Hd io H RelB Q1 (r.tst fun b _ st1 => .ok b st1) := by
  cases r with
  | bad => exact h
  | exc x st => exact h
  | ok w st =>
    simp only [tst_bind, R.bind_ok] at h ⊢
    cases ht : truth st w with
    | none => rw [ht] at h; exact h.elim
    | some b =>
      rw [ht] at h
      intro c Hd1 io1 H1 e1 l1 r1
      cases (show b = c from r1)
      exact k H1 Hd1 io1 w st b e1 l1 (PX.ext e1 h)
/-- a test from a value -/
theorem tT_val {K : PySem.W.Frag} {m : M} {σ : L2.St} {H : Hp} {Q : Bool → Hp → Prop} (h : tT S Wx G K m σ H Q) : tM S Wx G K m σ H fun x H' => ∃ k, TruV K x H' k ∧ Q k H' := by
  obtain ⟨Hd, io, ro, st, l, rs, h⟩ := h
  exact ⟨Hd, io, ro, st, l, rs, PX.tst h fun v H1 Hd1 io1 w st1 b e1 l1 r1 t h1 => ⟨b, t, PX.here h1 l1 rfl⟩⟩
theorem snd_val {m : M} {e : Expr} (h : PE X e (tM S Wx G X.K m)) (he : ∀ whole, isTrue e X.env whole = (do let v ← whole; standAt e.pos; holding [v] (truthy v))) (hb : ∀ op vs p, e ≠ .BoolOp op vs p) :
    PE X e (tM S Wx G X.K m) ∧ PT X e (tT S Wx G X.K m) ∧ ∀ op vs p, e = .BoolOp op vs p → PW X e (tT S Wx G X.K m) :=
  ⟨h, PTimp (pt_truth h he) fun _ _ _ q => tT_val q, fun op vs p z => absurd z (hb op vs p)⟩
local macro_rules | `(tactic| trivial) => `(tactic| (intro _; rfl))
theorem gl_of (c : CtxOk G N S Wx sc X) {x : Str} (h : glB sc x = true) : Gl X x ∧ (x == ("__debug__" : Str)) = false := by
  unfold glB at h
  simp only [Bool.and_eq_true, decide_eq_true_eq, Bool.not_eq_true'] at h
  refine ⟨?_, h.2⟩
  unfold Gl Env.kindOf
  rw [c.hsc]
  exact h.1
theorem vis_of (c : CtxOk G N S Wx sc X) {x : Str} (h : visB sc x = true) : Vis X.env.scope x := by
  rw [c.hsc]
  unfold visB at h
  unfold Vis
  split at h <;> simp_all
theorem loc_of (c : CtxOk G N S Wx sc X) {x : Str} (h : locB sc x = true) : L2.Loc X.env.scope x := by
  rw [c.hsc]
  unfold locB at h
  unfold L2.Loc
  split at h <;> simp_all
/-! ### names, constants -/
theorem snd_var (i : Nat) : Snd G N (.var i) := by
  intro S Wx sc X e c h
  cases e <;> try (simp [chk] at h; done)
  rename_i x p
  simp only [chk, Bool.and_eq_true, decide_eq_true_eq, Bool.not_eq_true'] at h
  refine snd_val ?_ (fun _ => rfl) (fun _ _ _ z => nomatch z)
  refine PEimp (pe_var (i := i) (by rw [c.hN]; exact h.1.1.1) (vis_of c h.1.1.2) h.1.2 h.2) fun σ H Q ⟨Hd, io, ro, st, l, rs, q⟩ => ?_
  unfold ev at q
  split at q
  · rename_i w hw
    obtain ⟨v, h1, h2⟩ := rs.get i w hw
    exact ⟨v, h1, PX.here q l h2⟩
  · exact q.elim
theorem snd_glob (y : Str) : Snd G N (.glob y) := by
  intro S Wx sc X e c h
  cases e <;> try (simp [chk] at h; done)
  rename_i x p
  simp only [chk, Bool.and_eq_true, decide_eq_true_eq] at h
  obtain ⟨rfl, hg⟩ := h
  obtain ⟨g1, g2⟩ := gl_of c hg
  refine snd_val ?_ (fun _ => rfl) (fun _ _ _ z => nomatch z)
  cases hc : G.con y with
  | none =>
    refine PEimp (t := fun _ _ _ => False) ⟨fun _ _ _ _ _ _ h => h.elim⟩ fun σ H Q ⟨Hd, io, ro, st, l, rs, q⟩ => ?_
    unfold ev at q
    rw [hc] at q
    exact q
  | some d =>
    obtain ⟨v, u, h1, h2, h3⟩ := c.con y d hc
    refine PEimp (pe_glob g1 h1 h2 g2) fun σ H Q ⟨Hd, io, ro, st, l, rs, q⟩ => ?_
    unfold ev at q
    rw [hc] at q
    exact PX.here (show PX _ _ _ _ _ _ _ (R.ok _ _) from q) l (h3 Hd)
theorem const_here {K : PySem.W.Frag} {d : D} {v : V} {m : M} (hm : ∀ ro st, ev G m ro st = .ok (.d d) st) (r : ∀ Hd, RelD K Hd v d) (σ : L2.St) (H : Hp) (Q : VK) (h : tM S Wx G K m σ H Q) : tC v σ H Q := by
  obtain ⟨Hd, io, ro, st, l, rs, q⟩ := h
  rw [hm] at q
  exact PX.here q l (r Hd)
theorem snd_non : Snd G N .non := by
  intro S Wx sc X e c h
  cases e <;> try (simp [chk] at h; done)
  rename_i x i p
  cases x <;> try (simp [chk] at h; done)
  exact snd_val (PEimp pe_non (const_here (d := .non) (fun _ _ => by simp only [ev]) fun _ => .non)) (fun _ => rfl) (fun _ _ _ z => nomatch z)
theorem snd_bl (b : Bool) : Snd G N (.bl b) := by
  intro S Wx sc X e c h
  cases e <;> try (simp [chk] at h; done)
  rename_i x i p
  cases x <;> try (simp [chk] at h; done)
  simp only [chk, beq_iff_eq] at h
  subst h
  exact snd_val (PEimp pe_bl (const_here (d := .bl b) (fun _ _ => by simp only [ev]) fun _ => .bl b)) (fun _ => rfl) (fun _ _ _ z => nomatch z)
theorem snd_int (b : Int) : Snd G N (.int b) := by
  intro S Wx sc X e c h
  cases e <;> try (simp [chk] at h; done)
  rename_i x i p
  cases x <;> try (simp [chk] at h; done)
  simp only [chk, decide_eq_true_eq] at h
  subst h
  exact snd_val (PEimp pe_int (const_here (d := .int b) (fun _ _ => by simp only [ev]) fun _ => .int b)) (fun _ => rfl) (fun _ _ _ z => nomatch z)
theorem snd_str (b : Str) : Snd G N (.str b) := by
  intro S Wx sc X e c h
  cases e <;> try (simp [chk] at h; done)
  rename_i x i p
  cases x <;> try (simp [chk] at h; done)
  simp only [chk, decide_eq_true_eq] at h
  subst h
  exact snd_val (PEimp pe_str (const_here (d := .str b) (fun _ _ => by simp only [ev]) fun _ => .str b)) (fun _ => rfl) (fun _ _ _ z => nomatch z)
/-! ### operators -/
section
variable {K : PySem.W.Frag} {σ : L2.St} {H Hd : Hp} {io : List Addr} {ro : List (Option W)} {st : Store} {Q : VK} {Q1 : VK}
theorem tM.go {m : M} {f : W → Store → R W} (l : Rl K Hd io st H) (rs : RelS K Hd io ro σ) (h : PX K (eX S Wx σ) Hd io H (RelW K) Q ((ev G m ro st).bind f))
    (k : ∀ v H1 Hd1 io1 w st1, Ext Hd io H Hd1 io1 H1 → Rl K Hd1 io1 st1 H1 → RelS K Hd1 io1 ro σ → RelW K Hd1 io1 w v → PX K (eX S Wx σ) Hd1 io1 H1 (RelW K) Q (f w st1) → Q1 v H1) : tM S Wx G K m σ H Q1 :=
  ⟨Hd, io, ro, st, l, rs, PX.bind h fun v H1 Hd1 io1 w st1 e1 l1 r1 q => k v H1 Hd1 io1 w st1 e1 l1 (rs.mono e1) r1 q⟩
end
theorem snd_bin (op : Operator) (a b : M) (ha : Snd G N a) (hb : Snd G N b) : Snd G N (.bin op a b) := by
  intro S Wx sc X e c h
  cases e <;> try (simp [chk] at h; done)
  rename_i x o y p
  simp only [chk, Bool.and_eq_true, decide_eq_true_eq] at h
  obtain ⟨⟨rfl, h1⟩, h2⟩ := h
  refine snd_val ?_ (fun _ => rfl) (fun _ _ _ z => nomatch z)
  refine PEimp (pe_op (op_bin op) (ha S Wx sc X _ c h1).1 (hb S Wx sc X _ c h2).1) fun σ H Q ⟨Hd, io, ro, st, l, rs, q⟩ => ?_
  simp only [ev] at q
  refine tM.go l rs q fun v H1 Hd1 io1 w st1 e1 l1 rs1 r1 q => ?_
  refine tM.go l1 rs1 q fun u H2 Hd2 io2 w2 st2 e2 l2 rs2 r2 q => ?_
  obtain ⟨d, hd, q⟩ := PX.okD q
  obtain ⟨x, y, p1, p2, hf⟩ := opt2_some hd
  exact ⟨Hd2, io2, st2, x, y, d, l2, peek_ok l2 (r1.mono e2) p1, peek_ok l2 r2 p2, hf, q⟩
theorem snd_neg (a : M) (ha : Snd G N a) : Snd G N (.neg a) := by
  intro S Wx sc X e c h
  cases e <;> try (simp [chk] at h; done)
  rename_i o y p
  cases o <;> try (simp [chk] at h; done)
  simp only [chk] at h
  refine snd_val ?_ (fun _ => rfl) (fun _ _ _ z => nomatch z)
  refine PEimp (pe_un un_neg (ha S Wx sc X _ c h).1) fun σ H Q ⟨Hd, io, ro, st, l, rs, q⟩ => ?_
  simp only [ev] at q
  refine tM.go l rs q fun v H1 Hd1 io1 w st1 e1 l1 rs1 r1 q => ?_
  split at q
  · rename_i i hp
    have := PkD.int (peek_ok l1 r1 hp)
    subst this
    exact ⟨i, rfl, PX.here q l1 (.int (-i))⟩
  · exact q.elim
def IsB (G : Gt) (m : M) : Prop := ∀ ro st w st', ev G m ro st = .ok w st' → ∃ b, w = .d (.bl b)
theorem tT_bool {K : PySem.W.Frag} {m : M} (hB : IsB G m) {σ : L2.St} {H : Hp} {Q : Bool → Hp → Prop} (h : tT S Wx G K m σ H Q) : tM S Wx G K m σ H fun x H' => ∃ k, x = .bl k ∧ Q k H' := by
  obtain ⟨Hd, io, ro, st, l, rs, h⟩ := h
  refine ⟨Hd, io, ro, st, l, rs, ?_⟩
  cases hr : ev G m ro st with
  | bad => rw [hr] at h; exact h.elim
  | exc x s => rw [hr] at h; exact h
  | ok w st1 =>
    obtain ⟨b, rfl⟩ := hB ro st w st1 hr
    rw [hr] at h
    intro v Hd1 io1 H1 e1 l1 r1
    cases r1
    exact ⟨b, rfl, PX.here (PX.ext e1 (show PX K _ Hd io H RelB Q (R.ok b st1) from h)) l1 rfl⟩
theorem cmp_isB (op : CmpOp) (a b : M) : IsB G (.cmp op a b) := by
  intro ro st w st' h
  simp only [ev] at h
  cases h1 : ev G a ro st with
  | bad => rw [h1] at h; cases h
  | exc _ _ => rw [h1] at h; cases h
  | ok wa st1 =>
    rw [h1, R.bind_ok] at h
    cases h2 : ev G b ro st1 with
    | bad => rw [h2] at h; cases h
    | exc _ _ => rw [h2] at h; cases h
    | ok wb st2 =>
      rw [h2, R.bind_ok] at h
      cases h3 : opt2 st2 wa wb (cmpD op) with
      | none => rw [h3] at h; cases h
      | some z => rw [h3] at h; cases h; exact ⟨z, rfl⟩
theorem room65 (c : CtxOk G N S Wx sc X) : X.A.units + 65 < cLine := c.room
theorem snd_cmp (op : CmpOp) (a b : M) (ha : Snd G N a) (hb : Snd G N b) : Snd G N (.cmp op a b) := by
  intro S Wx sc X e c h
  cases e <;> try (simp [chk] at h; done)
  rename_i x ops ys p
  match ops, ys, h with
  | [o], [y], h =>
    simp only [chk, Bool.and_eq_true, decide_eq_true_eq] at h
    obtain ⟨⟨⟨rfl, h1⟩, h2⟩, h3⟩ := h
    have key : ∀ σ H Q, tM S Wx G X.K (.cmp op a b) σ H Q → tOp (rC2 X.K (cmpD op)) (tM S Wx G X.K a) (tM S Wx G X.K b) σ H Q := fun σ H Q ⟨Hd, io, ro, st, l, rs, q⟩ => by
      simp only [ev] at q
      refine tM.go l rs q fun v H1 Hd1 io1 w st1 e1 l1 rs1 r1 q => ?_
      refine tM.go l1 rs1 q fun u H2 Hd2 io2 w2 st2 e2 l2 rs2 r2 q => ?_
      obtain ⟨d, hd, q⟩ := PX.okB q
      obtain ⟨x, y, p1, p2, hf⟩ := opt2_some hd
      exact rC2_of l2 (peek_ok l2 (r1.mono e2) p1) (peek_ok l2 r2 p2) hf (Post.here q l2 (.bl d))
    refine ⟨PEimp (pe_cmpR (op_cmp c.room op) (ha S Wx sc X _ c h1).1 (hb S Wx sc X _ c h2).1 (behind_of h3)) key, ?_, fun _ _ _ z => nomatch z⟩
    exact PTimp (pt_cmpR (op_cmp c.room op) (ha S Wx sc X _ c h1).1 (hb S Wx sc X _ c h2).1 (behind_of h3)) fun σ H Q q => key _ _ _ (tT_bool (cmp_isB op a b) q)
  | [], _, h => simp [chk] at h
  | [_], [], h => simp [chk] at h
  | [_], _ :: _ :: _, h => simp [chk] at h
  | _ :: _ :: _, _, h => simp [chk] at h
end Ev
set_option Elab.async false
set_option linter.all false
set_option maxRecDepth 100000
set_option maxHeartbeats 4000000
namespace Ev
open PySem PySem.Spec PyProof.Rows L2
/-! ### a thing being made, which nobody sees yet -/
section
variable {K : PySem.W.Frag} {Hd Hd2 H H2 : Hp} {io io2 : List Addr} {st st2 : Store} {p : Addr} {o0 o : HO}
theorem Rl.hide (l : Rl K Hd io st H) (hp : H p = none) : Rl K Hd io st (upd H p o0) := by
  have hd := l.fresh hp
  have np : ∀ a ∈ io, a ≠ p := fun a ha z => l.liv a ha (by rw [z]; exact hp)
  refine ⟨l.sub.trans (Le.upd hp), l.nd, l.len, fun n a c h1 h2 => ?_, fun a ha => by rw [upd_ne (np a ha)]; exact l.liv a ha⟩
  have hc := l.cel n a c h1 h2
  have na := np a (List.mem_of_getElem? h1)
  cases c with
  | lst ds => obtain ⟨h3, vs, h4, h5⟩ := hc; exact ⟨h3, vs, by rw [upd_ne na]; exact h4, h5⟩
  | dic kvs => obtain ⟨h3, vs, h4, h5⟩ := hc; exact ⟨h3, vs, by rw [upd_ne na]; exact h4, h5⟩
  | frz ds => exact hc
  | obj c fs =>
    obtain ⟨h3, dx, vs, h4, h5, h6, h7, h8⟩ := hc
    have nx : dx ≠ p := fun z => by rw [z, hp] at h5; cases h5
    exact ⟨h3, dx, vs, by rw [upd_ne na]; exact h4, by rw [upd_ne nx]; exact h5, h6, h7, h8⟩
theorem Ext.unhide (e : Ext Hd io (upd H p o0) Hd2 io2 H2) (hp : H p = none) : Ext Hd io H Hd2 io2 H2 := by
  have back : ∀ a, upd H p o0 a = none → H a = none := fun a h => by
    by_cases z : a = p
    · rw [z]; exact hp
    · rw [upd_ne z] at h; exact h
  obtain ⟨r, e1, n1⟩ := e.pre
  refine ⟨e.hd, fun a h1 h2 => ?_, ⟨r, e1, fun a ha => back a (n1 a ha)⟩, fun a u h hn => e.fr a u (Le.upd hp a u h) hn, fun a h => back a (e.liv a h)⟩
  rcases e.new a h1 h2 with z | z
  · exact .inl (back a z)
  · exact .inr z
theorem Ext.hidden (l : Rl K Hd io st H) (e : Ext Hd io (upd H p o0) Hd2 io2 H2) (hp : H p = none) : Hd2 p = none ∧ p ∉ io2 ∧ H2 p = some o0 := by
  have hd := l.fresh hp
  have np : p ∉ io := fun ha => l.liv p ha hp
  obtain ⟨r, e1, n1⟩ := e.pre
  refine ⟨?_, fun z => ?_, e.fr p o0 upd_same np⟩
  · cases q : Hd2 p with
    | none => rfl
    | some u =>
      rcases e.new p hd (by rw [q]; simp) with z | z
      · rw [upd_same] at z; cases z
      · exact absurd z np
  · rw [e1] at z
    rcases List.mem_append.mp z with z | z
    · exact np z
    · have := n1 p z; rw [upd_same] at this; cases this
theorem Rl.adoptC (l : Rl K Hd2 io2 st2 H2) (e : Ext Hd io H Hd2 io2 H2) (hp : H p = none) (hd : Hd2 p = none) (hn : p ∉ io2) (hno : ∀ x, H2 p ≠ some (.own x)) {c : Cell} (hc : CellOk K Hd2 (io2 ++ [p]) (upd H2 p o) p c) :
    Rl K Hd2 (io2 ++ [p]) (st2 ++ [c]) (upd H2 p o) ∧ Ext Hd io H Hd2 (io2 ++ [p]) (upd H2 p o) := by
  have np : ∀ a ∈ io2, a ≠ p := fun a ha z => hn (by rw [← z]; exact ha)
  have leU : Le Hd2 (upd H2 p o) := fun a u q => by
    rw [upd_ne (fun z => by rw [z, hd] at q; cases q)]; exact l.sub _ _ q
  obtain ⟨r, e1, n1⟩ := e.pre
  refine ⟨⟨leU, ?_, by simp [l.len], fun n a c' h1 h2 => ?_, fun a ha => ?_⟩, ⟨e.hd, e.new, ⟨r ++ [p], by rw [e1, List.append_assoc], fun a ha => ?_⟩, fun a u h hn => ?_, fun a h => ?_⟩⟩
  · refine List.nodup_append.mpr ⟨l.nd, by simp, fun a ha b hb => ?_⟩
    rw [List.mem_singleton.mp hb]; exact np a ha
  · by_cases hn : n < io2.length
    · rw [List.getElem?_append_left hn] at h1
      rw [List.getElem?_append_left (by rw [← l.len]; exact hn)] at h2
      have hc := l.cel n a c' h1 h2
      have na := np a (List.mem_of_getElem? h1)
      cases c' with
      | lst ds => obtain ⟨h3, vs, h4, h5⟩ := hc; exact ⟨h3, vs, by rw [upd_ne na]; exact h4, h5⟩
      | dic kvs => obtain ⟨h3, vs, h4, h5⟩ := hc; exact ⟨h3, vs, by rw [upd_ne na]; exact h4, h5⟩
      | frz ds => exact hc
      | obj c fs =>
        obtain ⟨h3, dx, vs, h4, h5, h6, h7, h8⟩ := hc
        have nx : dx ≠ p := fun z => hno _ (by rw [← z]; exact h5)
        refine ⟨h3, dx, vs, by rw [upd_ne na]; exact h4, by rw [upd_ne nx]; exact h5, h6, fun z => ?_, h8.more (Le.refl _)⟩
        rcases List.mem_append.mp z with z | z
        · exact h7 z
        · exact nx (List.mem_singleton.mp z)
    · rw [List.getElem?_append_right (by omega)] at h1
      rw [List.getElem?_append_right (by rw [← l.len]; omega)] at h2
      have e0 : n - io2.length = 0 := by
        have := (List.getElem?_eq_some_iff.mp h1).1
        simp at this; omega
      rw [e0] at h1
      rw [← l.len, e0] at h2
      simp at h1 h2
      subst h1 h2
      exact hc
  · rcases List.mem_append.mp ha with z | z
    · rw [upd_ne (np a z)]; exact l.liv a z
    · rw [List.mem_singleton.mp z, upd_same]; simp
  · rcases List.mem_append.mp ha with z | z
    · exact n1 a z
    · rw [List.mem_singleton.mp z]; exact hp
  · rw [upd_ne (ne_of_none h hp)]; exact e.fr a u h hn
  · by_cases z : a = p
    · rw [z]; exact hp
    · rw [upd_ne z] at h; exact e.liv a h
theorem Rl.adoptD (l : Rl K Hd2 io2 st2 H2) (e : Ext Hd io H Hd2 io2 H2) (hp : H p = none) (hd : Hd2 p = none) (hn : p ∉ io2) (h2 : H2 p = some o) (hno : ∀ x, o ≠ .own x) :
    Rl K (upd Hd2 p o) io2 st2 H2 ∧ Ext Hd io H (upd Hd2 p o) io2 H2 := by
  have np : ∀ a ∈ io2, a ≠ p := fun a ha z => hn (by rw [← z]; exact ha)
  have le := Le.upd (o := o) hd
  refine ⟨⟨fun a u q => ?_, l.nd, l.len, fun n a c h1 hc2 => ?_, l.liv⟩, ⟨e.hd.trans le, fun a h1 h2 => ?_, e.pre, e.fr, e.liv⟩⟩
  · by_cases z : a = p
    · rw [z, upd_same] at q; cases q; rw [z]; exact h2
    · rw [upd_ne z] at q; exact l.sub _ _ q
  · have hc := l.cel n a c h1 hc2
    have na := np a (List.mem_of_getElem? h1)
    cases c with
    | lst ds => obtain ⟨h3, vs, h4, h5⟩ := hc; exact ⟨by rw [upd_ne na]; exact h3, vs, h4, h5.mono le⟩
    | dic kvs => obtain ⟨h3, vs, h4, h5⟩ := hc; exact ⟨by rw [upd_ne na]; exact h3, vs, h4, h5.mono le⟩
    | frz ds => exact RelD.mono le hc
    | obj c fs =>
      obtain ⟨h3, dx, vs, h4, h5, h6, h7, h8⟩ := hc
      have nx : dx ≠ p := fun z => by rw [z, h2] at h5; cases h5; exact hno _ rfl
      exact ⟨by rw [upd_ne na]; exact h3, dx, vs, h4, h5, by rw [upd_ne nx]; exact h6, h7, h8.le le⟩
  · by_cases z : a = p
    · rw [z]; exact .inl hp
    · rw [upd_ne z] at h2; exact e.new a h1 h2
end
variable {G : Gt} {N : List Str} {S : IsX} {Wx : WX} {sc : Scope} {X : Cx}
theorem lastMarks_of {op op' : CmpOp} {x y : Expr} (h : noSet y = true) : lastMarks [op, op'] [x, y] = false := behind_of h
theorem chain_isB (op op' : CmpOp) (a b c : M) : IsB G (.chain op op' a b c) := by
  intro ro st w st' h
  simp only [ev] at h
  cases h1 : ev G a ro st with
  | bad => rw [h1] at h; cases h
  | exc _ _ => rw [h1] at h; cases h
  | ok wa st1 =>
    rw [h1, R.bind_ok] at h
    cases h2 : ev G b ro st1 with
    | bad => rw [h2] at h; cases h
    | exc _ _ => rw [h2] at h; cases h
    | ok wb st2 =>
      rw [h2, R.bind_ok] at h
      cases h3 : opt2 st2 wa wb (cmpD op) with
      | none => rw [h3] at h; cases h
      | some z =>
        rw [h3] at h
        cases z with
        | false => cases h; exact ⟨_, rfl⟩
        | true =>
          dsimp only at h
          cases h4 : ev G c ro st2 with
          | bad => rw [h4] at h; cases h
          | exc _ _ => rw [h4] at h; cases h
          | ok wc st3 =>
            rw [h4, R.bind_ok] at h
            cases h5 : opt2 st3 wb wc (cmpD op') with
            | none => rw [h5] at h; cases h
            | some z => rw [h5] at h; cases h; exact ⟨z, rfl⟩
theorem snd_chain (op op' : CmpOp) (a b d : M) (ha : Snd G N a) (hb : Snd G N b) (hd : Snd G N d) : Snd G N (.chain op op' a b d) := by
  intro S Wx sc X e c h
  cases e <;> try (simp [chk] at h; done)
  rename_i x ops ys p
  match ops, ys, h with
  | [o, o'], [y, z], h =>
    simp only [chk, Bool.and_eq_true, decide_eq_true_eq] at h
    obtain ⟨⟨⟨⟨⟨rfl, rfl⟩, h1⟩, h2⟩, h3⟩, h4⟩ := h
    have key : ∀ σ H Q, tM S Wx G X.K (.chain op op' a b d) σ H Q → tChain (rC2 X.K (cmpD op)) (rC2 X.K (cmpD op')) (tM S Wx G X.K a) (tM S Wx G X.K b) (tM S Wx G X.K d) σ H Q := fun σ H Q ⟨Hd, io, ro, st, l, rs, q⟩ => by
      simp only [ev] at q
      refine tM.go l rs q fun v H1 Hd1 io1 w st1 e1 l1 rs1 r1 q => ?_
      refine tM.go l1 rs1 q fun u H2 Hd2 io2 w2 st2 e2 l2 rs2 r2 q => ?_
      cases hp : opt2 st2 w w2 (cmpD op) with
      | none => rw [hp] at q; exact q.elim
      | some k =>
        rw [hp] at q
        obtain ⟨x, y, p1, p2, hf⟩ := opt2_some hp
        refine rC2_of l2 (peek_ok l2 (r1.mono e2) p1) (peek_ok l2 r2 p2) hf ⟨k, rfl, ?_⟩
        cases k with
        | false => exact PX.here q l2 (.bl false)
        | true =>
          dsimp only at q
          refine tM.go l2 rs2 q fun t H3 Hd3 io3 w3 st3 e3 l3 rs3 r3 q => ?_
          obtain ⟨z, hz, q⟩ := PX.okB q
          obtain ⟨x', y', p1', p2', hf'⟩ := opt2_some hz
          exact rC2_of l3 (peek_ok l3 (r2.mono e3) p1') (peek_ok l3 r3 p2') hf' (Post.here q l3 (.bl z))
    refine ⟨PEimp (pe_chain (op_cmp c.room op) (op_cmp c.room op') (ha S Wx sc X _ c h1).1 (hb S Wx sc X _ c h2).1 (hd S Wx sc X _ c h3).1 (lastMarks_of h4)) key, ?_, fun _ _ _ z => nomatch z⟩
    exact PTimp (pt_chain (op_cmp c.room op) (op_cmp c.room op') (ha S Wx sc X _ c h1).1 (hb S Wx sc X _ c h2).1 (hd S Wx sc X _ c h3).1 (lastMarks_of h4)) fun σ H Q q => key _ _ _ (tT_bool (chain_isB op op' a b d) q)
  | [], _, h => simp [chk] at h
  | [_], _, h => simp [chk] at h
  | [_, _], [], h => simp [chk] at h
  | [_, _], [_], h => simp [chk] at h
  | [_, _], _ :: _ :: _ :: _, h => simp [chk] at h
  | _ :: _ :: _ :: _, _, h => simp [chk] at h
/-! ### and, or, not, if -/
theorem tst_and {α : Type} {r : R W} {A : Store → R W} {g : Bool → Store → R α} : ((r.tst fun k w st => if k = true then A st else .ok w st).tst fun b _ st => g b st) = r.tst fun k _ st => if k = true then (A st).tst fun b _ st => g b st else g false st := by
  cases r with
  | bad => rfl
  | exc x s => rfl
  | ok w st =>
    simp only [R.tst, R.bind_ok]
    cases h : truth st w with
    | none => rfl
    | some b => cases b <;> simp [h]
theorem tst_or {α : Type} {r : R W} {A : Store → R W} {g : Bool → Store → R α} : ((r.tst fun k w st => if k = true then .ok w st else A st).tst fun b _ st => g b st) = r.tst fun k _ st => if k = true then g true st else (A st).tst fun b _ st => g b st := by
  cases r with
  | bad => rfl
  | exc x s => rfl
  | ok w st =>
    simp only [R.tst, R.bind_ok]
    cases h : truth st w with
    | none => rfl
    | some b => cases b <;> simp [h]
theorem tst_not {α : Type} {r : R W} {g : Bool → Store → R α} : ((r.tst fun k _ st => .ok (.d (.bl (!k))) st).tst fun b _ st => g b st) = r.tst fun k _ st => g (!k) st := by
  cases r with
  | bad => rfl
  | exc x s => rfl
  | ok w st =>
    simp only [R.tst, R.bind_ok]
    cases h : truth st w with
    | none => rfl
    | some b => rfl
theorem tst_ite {α : Type} {r : R W} {A B : Store → R W} {g : Bool → Store → R α} : ((r.tst fun k _ st => if k = true then A st else B st).tst fun b _ st => g b st) = r.tst fun k _ st => if k = true then (A st).tst fun b _ st => g b st else (B st).tst fun b _ st => g b st := by
  cases r with
  | bad => rfl
  | exc x s => rfl
  | ok w st =>
    simp only [R.tst, R.bind_ok]
    cases h : truth st w with
    | none => rfl
    | some b => cases b <;> rfl
section
variable {K : PySem.W.Frag} {σ : L2.St} {H Hd : Hp} {io : List Addr} {ro : List (Option W)} {st : Store} {Q : Bool → Hp → Prop} {Q1 : Bool → Hp → Prop}
theorem tT.go {α β : Type} {Rel2 : Hp → List Addr → α → β → Prop} {Q : β → Hp → Prop} {m : M} {f : Bool → Store → R α} (l : Rl K Hd io st H) (rs : RelS K Hd io ro σ) (h : PX K (eX S Wx σ) Hd io H Rel2 Q ((ev G m ro st).tst fun b _ st => f b st))
    (k : ∀ b H1 Hd1 io1 st1, Ext Hd io H Hd1 io1 H1 → Rl K Hd1 io1 st1 H1 → RelS K Hd1 io1 ro σ → PX K (eX S Wx σ) Hd1 io1 H1 Rel2 Q (f b st1) → Q1 b H1) : tT S Wx G K m σ H Q1 :=
  ⟨Hd, io, ro, st, l, rs, PX.tstB (fun _ _ _ _ => rfl) h fun H1 Hd1 io1 w st1 b e1 l1 q => k b H1 Hd1 io1 st1 e1 l1 (rs.mono e1) q⟩
end
theorem snd_and (a b : M) (ha : Snd G N a) (hb : Snd G N b) : Snd G N (.and2 a b) := by
  intro S Wx sc X e c h
  cases e <;> try (simp [chk] at h; done)
  rename_i op vs p
  have key : ∀ σ H Q, tM S Wx G X.K (.and2 a b) σ H Q → tAndT X.K (tM S Wx G X.K a) (tM S Wx G X.K b) σ H Q := fun σ H Q ⟨Hd, io, ro, st, l, rs, q⟩ => by
    simp only [ev] at q
    refine ⟨Hd, io, ro, st, l, rs, PX.tst q fun v H1 Hd1 io1 w st1 k e1 l1 r1 t q => ⟨k, t, ?_⟩⟩
    cases k with
    | true => exact ⟨Hd1, io1, ro, st1, l1, rs.mono e1, q⟩
    | false => exact PX.here q l1 r1
  have keyT : ∀ σ H Q, tT S Wx G X.K (.and2 a b) σ H Q → tAnd (tT S Wx G X.K a) (tT S Wx G X.K b) σ H Q := fun σ H Q ⟨Hd, io, ro, st, l, rs, q⟩ => by
    simp only [ev] at q
    rw [tst_and] at q
    refine tT.go l rs q fun k H1 Hd1 io1 st1 e1 l1 rs1 q => ?_
    cases k with
    | true => exact ⟨Hd1, io1, ro, st1, l1, rs1, q⟩
    | false => exact PX.here q l1 rfl
  cases op with
  | Or => simp [chk] at h
  | And =>
    match vs, h with
    | [x, y], h =>
      simp only [chk, Bool.and_eq_true] at h
      have A := ha S Wx sc X _ c h.1
      have B := hb S Wx sc X _ c h.2
      have PWW := PWimp (pw_and (pos := p) A.2.1 (pw_and1 B.2.1)) keyT
      exact ⟨PEimp (pe_andT A.1 (pe_one B.1)) key, PWW.pt, fun _ _ _ z => by cases z; exact PWW⟩
    | x :: y :: z :: r, h =>
      simp only [chk, Bool.and_eq_true] at h
      have A := ha S Wx sc X _ c h.1
      have B := hb S Wx sc X _ c h.2
      have PWW := PWimp (pw_and (pos := p) A.2.1 (B.2.2 _ _ _ rfl)) keyT
      exact ⟨PEimp (pe_andT A.1 B.1) key, PWW.pt, fun _ _ _ z => by cases z; exact PWW⟩
    | [], h => simp [chk] at h
    | [_], h => simp [chk] at h
theorem snd_or (a b : M) (ha : Snd G N a) (hb : Snd G N b) : Snd G N (.or2 a b) := by
  intro S Wx sc X e c h
  cases e <;> try (simp [chk] at h; done)
  rename_i op vs p
  have key : ∀ σ H Q, tM S Wx G X.K (.or2 a b) σ H Q → tOrT X.K (tM S Wx G X.K a) (tM S Wx G X.K b) σ H Q := fun σ H Q ⟨Hd, io, ro, st, l, rs, q⟩ => by
    simp only [ev] at q
    refine ⟨Hd, io, ro, st, l, rs, PX.tst q fun v H1 Hd1 io1 w st1 k e1 l1 r1 t q => ⟨k, t, ?_⟩⟩
    cases k with
    | false => exact ⟨Hd1, io1, ro, st1, l1, rs.mono e1, q⟩
    | true => exact PX.here q l1 r1
  have keyT : ∀ σ H Q, tT S Wx G X.K (.or2 a b) σ H Q → tOr (tT S Wx G X.K a) (tT S Wx G X.K b) σ H Q := fun σ H Q ⟨Hd, io, ro, st, l, rs, q⟩ => by
    simp only [ev] at q
    rw [tst_or] at q
    refine tT.go l rs q fun k H1 Hd1 io1 st1 e1 l1 rs1 q => ?_
    cases k with
    | false => exact ⟨Hd1, io1, ro, st1, l1, rs1, q⟩
    | true => exact PX.here q l1 rfl
  cases op with
  | And => simp [chk] at h
  | Or =>
    match vs, h with
    | [x, y], h =>
      simp only [chk, Bool.and_eq_true] at h
      have A := ha S Wx sc X _ c h.1
      have B := hb S Wx sc X _ c h.2
      have PWW := PWimp (pw_or (pos := p) A.2.1 (pw_or1 B.2.1)) keyT
      exact ⟨PEimp (pe_orT A.1 (pe_one B.1)) key, PWW.pt, fun _ _ _ z => by cases z; exact PWW⟩
    | x :: y :: z :: r, h =>
      simp only [chk, Bool.and_eq_true] at h
      have A := ha S Wx sc X _ c h.1
      have B := hb S Wx sc X _ c h.2
      have PWW := PWimp (pw_or (pos := p) A.2.1 (B.2.2 _ _ _ rfl)) keyT
      exact ⟨PEimp (pe_orT A.1 B.1) key, PWW.pt, fun _ _ _ z => by cases z; exact PWW⟩
    | [], h => simp [chk] at h
    | [_], h => simp [chk] at h
theorem snd_not (a : M) (ha : Snd G N a) : Snd G N (.not a) := by
  intro S Wx sc X e c h
  cases e <;> try (simp [chk] at h; done)
  rename_i o y p
  cases o <;> try (simp [chk] at h; done)
  simp only [chk] at h
  have A := ha S Wx sc X _ c h
  refine ⟨PEimp (pe_notT A.1) fun σ H Q ⟨Hd, io, ro, st, l, rs, q⟩ => ?_, PTimp (pt_not A.2.1) fun σ H Q ⟨Hd, io, ro, st, l, rs, q⟩ => ?_, fun _ _ _ z => nomatch z⟩
  · simp only [ev] at q
    exact ⟨Hd, io, ro, st, l, rs, PX.tst q fun v H1 Hd1 io1 w st1 k e1 l1 r1 t q => ⟨k, t, PX.here q l1 (.bl _)⟩⟩
  · simp only [ev] at q
    rw [tst_not] at q
    exact tT.go l rs q fun k H1 Hd1 io1 st1 e1 l1 rs1 q => PX.here q l1 rfl
theorem pt_ifE {c a b : Expr} {pos : Pos} {t t1 t2 : TT} (hc : PT X c t) (ha : PT X a t1) (hb : PT X b t2) : PT X (.IfExp c a b pos) fun σ H Q => t σ H fun k H1 => if k = true then t1 σ H1 Q else t2 σ H1 Q := by
  refine ⟨fun pins s σ H Q I h => ?_⟩
  show wpAny (model X.prog X.w) X.A (do
    if ← PySem.isTrue c X.env (eval c X.env) then PySem.isTrue a X.env (eval a X.env) else PySem.isTrue b X.env (eval b X.env)) (TP X pins σ Q) X.xe s
  refine wpAny_bind (thn (hc.run pins s σ H _ I h) fun d s1 ⟨H1, I1, q1⟩ => ?_)
  cases d with
  | true => exact ha.run pins s1 σ H1 Q I1 q1
  | false => exact hb.run pins s1 σ H1 Q I1 q1
theorem snd_ite (t a b : M) (ht : Snd G N t) (ha : Snd G N a) (hb : Snd G N b) : Snd G N (.ite t a b) := by
  intro S Wx sc X e c h
  cases e <;> try (simp [chk] at h; done)
  simp only [chk, Bool.and_eq_true] at h
  have T := ht S Wx sc X _ c h.1.1
  have A := ha S Wx sc X _ c h.1.2
  have B := hb S Wx sc X _ c h.2
  refine ⟨PEimp (pe_ifExp T.2.1 A.1 B.1) fun σ H Q ⟨Hd, io, ro, st, l, rs, q⟩ => ?_, PTimp (pt_ifE T.2.1 A.2.1 B.2.1) fun σ H Q ⟨Hd, io, ro, st, l, rs, q⟩ => ?_, fun _ _ _ z => nomatch z⟩
  · simp only [ev] at q
    refine tT.go l rs q fun k H1 Hd1 io1 st1 e1 l1 rs1 q => ?_
    cases k with
    | true => exact ⟨Hd1, io1, ro, st1, l1, rs1, q⟩
    | false => exact ⟨Hd1, io1, ro, st1, l1, rs1, q⟩
  · simp only [ev] at q
    rw [tst_ite] at q
    refine tT.go l rs q fun k H1 Hd1 io1 st1 e1 l1 rs1 q => ?_
    cases k with
    | true => exact ⟨Hd1, io1, ro, st1, l1, rs1, q⟩
    | false => exact ⟨Hd1, io1, ro, st1, l1, rs1, q⟩
/-! ### arguments -/
def AllSnd (G : Gt) (N : List Str) : Ms → Prop
  | .nil => True
  | .cons m r => Snd G N m ∧ AllSnd G N r
theorem snds {m : Ms} (hm : AllSnd G N m) : SndA G N m := by
  intro S Wx sc X es c h
  induction es generalizing m with
  | nil =>
    cases m with
    | nil =>
      refine PAimp pa_nil fun σ H Q ⟨Hd, io, ro, st, l, rs, q⟩ => ?_
      simp only [evs] at q
      exact PX.here q l RelWs.nil
    | cons m r => simp [chks] at h
  | cons e es ih =>
    cases m with
    | nil => simp [chks] at h
    | cons m r =>
      simp only [chks, Bool.and_eq_true] at h
      refine PAimp (pa_cons (hm.1 S Wx sc X _ c h.1.2).1 (ih hm.2 h.2) (star_plain h.1.1)) fun σ H Q ⟨Hd, io, ro, st, l, rs, q⟩ => ?_
      simp only [evs] at q
      refine ⟨Hd, io, ro, st, l, rs, PX.bind q fun v H1 Hd1 io1 w st1 e1 l1 r1 q => ?_⟩
      exact ⟨Hd1, io1, ro, st1, l1, rs.mono e1, PX.bind q fun vs H2 Hd2 io2 ws st2 e2 l2 r2 q => PX.here q l2 (.cons (r1.mono e2) r2)⟩
end Ev
set_option Elab.async false
set_option linter.all false
set_option maxRecDepth 100000
set_option maxHeartbeats 1000000
namespace Ev
open PySem PySem.Spec PyProof.Rows L2
variable {G : Gt} {N : List Str} {S : IsX} {Wx : WX} {sc : Scope} {X : Cx}
section
variable {α β : Type} {Rel2 : Hp → List Addr → α → β → Prop} {K : PySem.W.Frag} {σ : L2.St} {H Hd : Hp} {io : List Addr} {ro : List (Option W)} {st : Store} {Q : β → Hp → Prop} {Q1 : List V → Hp → Prop}
theorem tMs.go {m : Ms} {f : List W → Store → R α} (l : Rl K Hd io st H) (rs : RelS K Hd io ro σ) (h : PX K (eX S Wx σ) Hd io H Rel2 Q ((evs G m ro st).bind f))
    (k : ∀ v H1 Hd1 io1 w st1, Ext Hd io H Hd1 io1 H1 → Rl K Hd1 io1 st1 H1 → RelS K Hd1 io1 ro σ → RelWs K Hd1 io1 w v → PX K (eX S Wx σ) Hd1 io1 H1 Rel2 Q (f w st1) → Q1 v H1) : tMs S Wx G K m σ H Q1 :=
  ⟨Hd, io, ro, st, l, rs, PX.bind h fun v H1 Hd1 io1 w st1 e1 l1 r1 q => k v H1 Hd1 io1 w st1 e1 l1 (rs.mono e1) r1 q⟩
end
theorem size1000 {n : Nat} (h : n ≤ 1000) : n ≤ sizeLine := Nat.le_trans h (by rw [sizeLine_eq]; decide)
theorem snd_tup (es : Ms) (hs : AllSnd G N es) : Snd G N (.tup es) := by
  intro S Wx sc X e c h
  cases e <;> try (simp [chk] at h; done)
  simp only [chk] at h
  refine snd_val ?_ (fun _ => rfl) (fun _ _ _ z => nomatch z)
  refine PEimp (pe_tup (snds hs S Wx sc X _ c h)) fun σ H Q ⟨Hd, io, ro, st, l, rs, q⟩ => ?_
  simp only [ev] at q
  refine tMs.go l rs q fun vs H1 Hd1 io1 ws st1 e1 l1 rs1 r1 q => ?_
  obtain ⟨ds, Hd2, st2, e2, l2, r2, q⟩ := keepAll_bind l1 r1 q
  split at q
  · rename_i hz
    exact ⟨by rw [r2.length]; exact size1000 hz, fun p hp => Post.newTup q l2 r2 hp⟩
  · exact q.elim
theorem snd_lst (es : Ms) (hs : AllSnd G N es) : Snd G N (.lst es) := by
  intro S Wx sc X e c h
  cases e <;> try (simp [chk] at h; done)
  simp only [chk] at h
  refine snd_val ?_ (fun _ => rfl) (fun _ _ _ z => nomatch z)
  refine PEimp (pe_lst (snds hs S Wx sc X _ c h)) fun σ H Q ⟨Hd, io, ro, st, l, rs, q⟩ => ?_
  simp only [ev] at q
  refine tMs.go l rs q fun vs H1 Hd1 io1 ws st1 e1 l1 rs1 r1 q => ?_
  obtain ⟨ds, Hd2, st2, e2, l2, r2, q⟩ := keepAll_bind l1 r1 q
  split at q
  · rename_i hz
    exact ⟨by rw [r2.length]; exact size1000 hz, fun p hp => Post.newLst q l2 r2 hp⟩
  · exact q.elim
theorem relW_last {K : PySem.W.Frag} {Hd : Hp} {io : List Addr} {st : Store} {H : Hp} (l : Rl K Hd io st H) {p : Addr} : RelW K Hd (io ++ [p]) (.cell st.length) (.ref p) :=
  ⟨p, rfl, by rw [← l.len]; simp⟩
theorem snd_nlst : Snd G N .nlst := by
  intro S Wx sc X e c h
  cases e <;> try (simp [chk] at h; done)
  rename_i es p
  cases es with
  | cons _ _ => simp [chk] at h
  | nil =>
    refine snd_val ?_ (fun _ => rfl) (fun _ _ _ z => nomatch z)
    refine PEimp (pe_lst pa_nil) fun σ H Q ⟨Hd, io, ro, st, l, rs, q⟩ => ?_
    simp only [ev] at q
    refine ⟨Nat.zero_le _, fun p hp => ?_⟩
    obtain ⟨l', e'⟩ := l.newC (o := .lst []) (c := .lst []) hp ⟨l.fresh hp, [], upd_same, .nil⟩
    exact q _ _ _ _ e' l' (relW_last l)
theorem snd_ndic : Snd G N .ndic := by
  intro S Wx sc X e c h
  cases e <;> try (simp [chk] at h; done)
  rename_i ks vs p
  cases ks with
  | cons _ _ => simp [chk] at h
  | nil =>
    cases vs with
    | cons _ _ => simp [chk] at h
    | nil =>
      refine snd_val ?_ (fun _ => rfl) (fun _ _ _ z => nomatch z)
      refine PEimp pe_dnewK fun σ H Q ⟨Hd, io, ro, st, l, rs, q⟩ => ?_
      simp only [ev] at q
      intro p hp
      obtain ⟨l', e'⟩ := l.newC (o := .dK []) (c := .dic []) hp ⟨l.fresh hp, [], upd_same, .nil⟩
      exact q _ _ _ _ e' l' (relW_last l)
/-! ### a dict's display -/
def pairTs (S : IsX) (Wx : WX) (G : Gt) (K : PySem.W.Frag) : List Str → Ms → List (TE × TE)
  | k :: ks, .cons m r => (tC (.str k), tM S Wx G K m) :: pairTs S Wx G K ks r
  | _, _ => []
theorem pps_all (c : CtxOk G N S Wx sc X) {pos : Pos} : ∀ {ks : List Str} {keys : List (Option Expr)} {m : Ms} {vals : List Expr}, keysAre ks keys = true → chks N sc m vals = true → ks.length = vals.length → AllSnd G N m → PPs X pos keys vals (pairTs S Wx G X.K ks m)
  | [], [], .nil, [], _, _, _, _ => pps_nil
  | [], [], .nil, _ :: _, _, h, _, _ => by simp [chks] at h
  | [], [], .cons _ _, [], _, h, _, _ => by simp [chks] at h
  | [], [], .cons _ _, _ :: _, _, _, h, _ => by simp at h
  | [], _ :: _, _, _, h, _, _, _ => by simp [keysAre] at h
  | _ :: _, [], _, _, h, _, _, _ => by simp [keysAre] at h
  | k :: ks, key :: keys, .nil, [], _, _, h, _ => by simp at h
  | k :: ks, key :: keys, .nil, _ :: _, _, h, _, _ => by simp [chks] at h
  | k :: ks, key :: keys, .cons m r, [], _, h, _, _ => by simp [chks] at h
  | k :: ks, key :: keys, .cons m r, v :: vals, hk, hc, hl, hs => by
    simp only [chks, Bool.and_eq_true] at hc
    have rest : keysAre ks keys = true → PPs X pos keys vals (pairTs S Wx G X.K ks r) := fun z => pps_all c z hc.2 (by simpa using hl) hs.2
    match key, hk with
    | some (.Constant (.str z) j p), hk =>
      simp only [keysAre, Bool.and_eq_true, decide_eq_true_eq] at hk
      obtain ⟨rfl, hk⟩ := hk
      exact pps_cons pe_str (hs.1 S Wx sc X _ c hc.1.2).1 (rest hk)
theorem keysAre_some : ∀ {ks : List Str} {keys : List (Option Expr)}, keysAre ks keys = true → (keys.all fun x => x.isSome) = true ∧ keys.length = ks.length
  | [], [], _ => ⟨rfl, rfl⟩
  | [], _ :: _, h => by simp [keysAre] at h
  | _ :: _, [], h => by simp [keysAre] at h
  | k :: ks, key :: keys, h => by
    match key, h with
    | some (.Constant (.str z) j p), h =>
      simp only [keysAre, Bool.and_eq_true, decide_eq_true_eq] at h
      obtain ⟨h1, h2⟩ := keysAre_some h.2
      exact ⟨by simp [h1], by simp [h2]⟩
def msLen : Ms → Nat
  | .nil => 0
  | .cons _ r => msLen r + 1
theorem chks_len : ∀ {m : Ms} {es : List Expr}, chks N sc m es = true → msLen m = es.length
  | .nil, [], _ => rfl
  | .nil, _ :: _, h => by simp [chks] at h
  | .cons m r, [], h => by simp [chks] at h
  | .cons m r, e :: es, h => by
    simp only [chks, Bool.and_eq_true] at h
    simp [msLen, chks_len h.2]
theorem pairs_go {α β : Type} {Rel2 : Hp → List Addr → α → β → Prop} {K : PySem.W.Frag} {σ : L2.St} {ro : List (Option W)} {Q : β → Hp → Prop} : ∀ {ks : List Str} {m : Ms} {H Hd : Hp} {io : List Addr} {st : Store} {f : List W → Store → R α} {Q1 : List (V × V) → Hp → Prop}, ks.length = msLen m → Rl K Hd io st H → RelS K Hd io ro σ →
    PX K (eX S Wx σ) Hd io H Rel2 Q ((evs G m ro st).bind f) →
    (∀ vs H1 Hd1 io1 ws st1, vs.length = ks.length → Ext Hd io H Hd1 io1 H1 → Rl K Hd1 io1 st1 H1 → RelWs K Hd1 io1 ws vs → PX K (eX S Wx σ) Hd1 io1 H1 Rel2 Q (f ws st1) → Q1 ((ks.map V.str).zip vs) H1) → tPairs (pairTs S Wx G K ks m) σ H Q1
  | [], .nil, H, Hd, io, st, f, Q1, _, l, rs, q, k => by
    simp only [evs, R.bind_ok] at q
    exact k [] H Hd io [] st rfl Ext.refl l .nil q
  | [], .cons _ _, _, _, _, _, _, _, hl, _, _, _, _ => by simp [msLen] at hl
  | _ :: _, .nil, _, _, _, _, _, _, hl, _, _, _, _ => by simp [msLen] at hl
  | x :: ks, .cons m r, H, Hd, io, st, f, Q1, hl, l, rs, q, k => by
    have e0 : (evs G (.cons m r) ro st).bind f = (ev G m ro st).bind fun w st1 => (evs G r ro st1).bind fun ws st2 => f (w :: ws) st2 := by
      simp only [evs]
      cases ev G m ro st with
      | bad => rfl
      | exc _ _ => rfl
      | ok w st1 =>
        simp only [R.bind_ok]
        cases evs G r ro st1 with
        | bad => rfl
        | exc _ _ => rfl
        | ok ws st2 => rfl
    rw [e0] at q
    show tC (.str x) σ H fun a H1 => tM S Wx G K m σ H1 fun y H2 => tPairs (pairTs S Wx G K ks r) σ H2 fun ps H3 => Q1 ((a, y) :: ps) H3
    show tM S Wx G K m σ H fun y H2 => tPairs (pairTs S Wx G K ks r) σ H2 fun ps H3 => Q1 ((.str x, y) :: ps) H3
    refine ⟨Hd, io, ro, st, l, rs, PX.bind q fun v H1 Hd1 io1 w st1 e1 l1 r1 q => ?_⟩
    refine pairs_go (by simpa [msLen] using hl) l1 (rs.mono e1) q fun vs H2 Hd2 io2 ws st2 hv e2 l2 r2 q => ?_
    exact k (v :: vs) H2 Hd2 io2 (w :: ws) st2 (by simp [hv]) (e1.trans e2) l2 (.cons (r1.mono e2) r2) q
theorem putK_new {k : Key} {v : V} : ∀ {kvs : List (Key × V)}, k ∉ kvs.map (·.1) → putK kvs k v = kvs ++ [(k, v)] := fun {kvs} h => by
  unfold putK
  rw [if_neg]
  intro z
  obtain ⟨p, h1, h2⟩ := List.any_eq_true.mp z
  exact h (List.mem_map.mpr ⟨p, h1, of_decide_eq_true h2⟩)
theorem mergeK_new : ∀ (more kvs : List (Key × V)), ((kvs ++ more).map (·.1)).Nodup → mergeK kvs more = kvs ++ more
  | [], kvs, _ => by simp [mergeK]
  | p :: r, kvs, h => by
    have hn : p.1 ∉ kvs.map (·.1) := fun z => by
      rw [List.map_append, List.nodup_append] at h
      exact h.2.2 _ z _ (by simp) rfl
    show mergeK (putK kvs p.1 p.2) r = _
    rw [putK_new hn, mergeK_new r _ (by simpa using h)]
    simp
theorem relKV_zip {K : PySem.W.Frag} {Hd : Hp} : ∀ {ks : List Key} {vs : List V} {ds : List D}, RelDs K Hd vs ds → RelKV K Hd (ks.zip vs) (ks.zip ds)
  | [], _, _, _ => by simp; exact .nil
  | _ :: _, _, _, .nil => by simp; exact .nil
  | k :: ks, _, _, .cons h r => by
    rw [List.zip_cons_cons, List.zip_cons_cons]
    exact .cons h (relKV_zip r)
theorem zip_keys : ∀ {ks : List Str} {vs : List V}, (ks.map V.str).zip vs = ((ks.map (Sum.inr : Str → Key)).zip vs).map fun kv => (kV kv.1, kv.2)
  | [], _ => by simp
  | _ :: _, [] => by simp
  | k :: ks, v :: vs => by
    rw [List.map_cons, List.map_cons, List.zip_cons_cons, List.zip_cons_cons, List.map_cons, zip_keys]
    rfl
theorem zip_fst : ∀ {ks : List Key} {vs : List V}, vs.length = ks.length → (ks.zip vs).map (·.1) = ks
  | [], _, _ => by simp
  | k :: ks, [], h => by simp at h
  | k :: ks, v :: vs, h => by simp [zip_fst (ks := ks) (vs := vs) (by simpa using h)]
theorem snd_dic (ks : List Str) (es : Ms) (hs : AllSnd G N es) : Snd G N (.dic ks es) := by
  intro S Wx sc X e c h
  cases e <;> try (simp [chk] at h; done)
  rename_i keys vals p
  simp only [chk, Bool.and_eq_true, decide_eq_true_eq, Bool.not_eq_true'] at h
  obtain ⟨⟨⟨⟨⟨h1, h2⟩, h3⟩, h4⟩, h5⟩, h6⟩ := h
  obtain ⟨k1, k2⟩ := keysAre_some h1
  refine snd_val ?_ (fun _ => rfl) (fun _ _ _ z => nomatch z)
  refine PEimp (pe_disp (pps_all c h1 h2 h5 hs) k1 (by rw [k2, h5]) (fun z => by subst z; cases ks with
    | nil => simp at h6
    | cons _ _ => simp at k2) (by rw [k2]; exact h4)) fun σ H Q ⟨Hd, io, ro, st, l, rs, q⟩ => ?_
  simp only [ev] at q
  intro p hp
  cases hr : evs G es ro st with
  | bad => rw [hr] at q; exact q.elim
  | exc x s =>
    rw [hr] at q
    refine pairs_go (f := R.ok) (Rel2 := RelWs X.K) (Q := fun _ _ => False) (by rw [h5, chks_len h2]) (l.hide hp) rs ?_ fun vs H1 Hd1 io1 ws st1 hv e1 l1 r1 q => (PX.here q l1 r1).elim
    rw [hr]
    exact fun a b d e1 l1 => q a b d (e1.unhide hp) l1
  | ok ws st1 =>
    rw [hr, R.bind_ok] at q
    refine pairs_go (f := R.ok) (Rel2 := RelWs X.K) (Q := fun vs H1 => ∃ Hd1 io1, Ext Hd io (upd H p (.dK [])) Hd1 io1 H1 ∧ Rl X.K Hd1 io1 st1 H1 ∧ RelWs X.K Hd1 io1 ws vs) (by rw [h5, chks_len h2]) (l.hide hp) rs ?_ fun vs H1 Hd1' io1' ws' st1' hv e1' l1' r1' q' => ?_
    · rw [hr]
      exact fun v a b d e1 l1 r1 => ⟨a, b, e1, l1, r1⟩
    · obtain ⟨Hd1, io1, e1, l1, r1⟩ := PX.here q' l1' r1'
      cases hk : keepAll ws st1 with
      | bad => rw [hk] at q; exact q.elim
      | exc x s => exact (keepAll_noexc hk).elim
      | ok ds st2 =>
        rw [hk, R.bind_ok] at q
        obtain ⟨Hd2, e2, l2, r2⟩ := keepAll_ok l1 r1 hk
        have e02 := e1.trans e2
        obtain ⟨n1, n2, n3⟩ := e02.hidden l hp
        refine ⟨n3, (ks.map Sum.inr).zip vs, zip_keys, ?_, ?_⟩
        · rw [List.length_zip]
          simp only [List.length_map]
          omega
        · have hnd : (ks.map (Sum.inr : Str → Key)).Nodup := List.Pairwise.map _ (fun a b hab z => hab (by cases z; rfl)) h3
          rw [mergeK_new _ [] (by
            rw [List.nil_append, zip_fst (by simp [hv])]
            exact hnd), List.nil_append]
          obtain ⟨l3, e3⟩ := l2.adoptC (c := .dic ((ks.map Sum.inr).zip ds)) (o := .dK ((ks.map Sum.inr).zip vs)) (e02.unhide hp) hp n1 n2 (fun x z => by rw [n3] at z; cases z) ⟨n1, _, upd_same, relKV_zip r2⟩
          exact q _ _ _ _ e3 l3 (relW_last l2)
end Ev
set_option Elab.async false
set_option linter.all false
set_option maxRecDepth 100000
set_option maxHeartbeats 1000000
namespace Ev
open PySem PySem.Spec PyProof.Rows L2
variable {G : Gt} {N : List Str} {S : IsX} {Wx : WX} {sc : Scope} {X : Cx}
theorem valV_cons {kv : Key × V} {r : List (Key × V)} {k : Key} : valV (kv :: r) k = if kv.1 = k then some kv.2 else valV r k := by
  by_cases h : kv.1 = k
  · rw [if_pos h, valV_pos h]
  · rw [if_neg h, valV_neg h]
theorem lookK_cons {kv : Key × D} {r : List (Key × D)} {k : Key} : lookK (kv :: r) k = if kv.1 = k then some kv.2 else lookK r k := by
  unfold lookK
  rw [List.find?_cons]
  by_cases h : kv.1 = k
  · simp [h]
  · simp [h]
theorem lookK_rel {K : PySem.W.Frag} {Hd : Hp} {k : Key} : ∀ {vs : List (Key × V)} {kvs : List (Key × D)} {d : D}, RelKV K Hd vs kvs → lookK kvs k = some d → ∃ v, valV vs k = some v ∧ RelD K Hd v d
  | _, _, _, .nil, h => by cases h
  | _, _, d, .cons (k := k') hv r, h => by
    rw [lookK_cons] at h
    rw [valV_cons]
    by_cases e : k' = k
    · rw [if_pos e] at h ⊢; cases h; exact ⟨_, rfl, hv⟩
    · rw [if_neg e] at h ⊢; exact lookK_rel r h
theorem keyOf_kV {K : PySem.W.Frag} {Hd : Hp} {d : D} {v : V} {k : Key} (h : keyOf d = some k) (r : RelD K Hd v d) : v = kV k := by
  cases d <;> simp [keyOf] at h
  · subst h; cases r; rfl
  · subst h; cases r; rfl
theorem dgetD_ok {st : Store} {a k : W} {d : D} (h : dgetD st a k = some d) : ∃ n kd kvs key, a = .cell n ∧ k = .d kd ∧ st[n]? = some (.dic kvs) ∧ keyOf kd = some key ∧ lookK kvs key = some d := by
  unfold dgetD at h
  split at h
  · split at h
    · rename_i h1 h2
      exact ⟨_, _, _, _, rfl, rfl, h1, h2, h⟩
    · cases h
  · cases h
theorem snd_dget (a k : M) (ha : Snd G N a) (hk : Snd G N k) : Snd G N (.dget a k) := by
  intro S Wx sc X e c h
  cases e <;> try (simp [chk] at h; done)
  simp only [chk, Bool.and_eq_true] at h
  refine snd_val ?_ (fun _ => rfl) (fun _ _ _ z => nomatch z)
  refine PEimp (pe_dget (Nat.lt_of_le_of_lt (by omega) c.room) (ha S Wx sc X _ c h.1.1).1 (hk S Wx sc X _ c h.1.2).1 (noSl_of h.2)) fun σ H Q ⟨Hd, io, ro, st, l, rs, q⟩ => ?_
  simp only [ev] at q
  refine tM.go l rs q fun v H1 Hd1 io1 w st1 e1 l1 rs1 r1 q => ?_
  refine tM.go l1 rs1 q fun u H2 Hd2 io2 w2 st2 e2 l2 rs2 r2 q => ?_
  obtain ⟨d, hd, q2⟩ := PX.okD q
  obtain ⟨n, kd, kvs, key, rfl, rfl, h1, h2, h3⟩ := dgetD_ok hd
  obtain ⟨p, rfl, hp⟩ := r1.mono e2
  obtain ⟨_, vs, h4, h5⟩ := l2.cel n p _ hp h1
  obtain ⟨v, h6, h7⟩ := lookK_rel h5 h3
  exact ⟨p, v, rfl, .inl ⟨vs, key, .inl h4, keyOf_kV h2 r2, h6.symm⟩, Post.here q2 l2 h7⟩
theorem snd_sub (a k : M) (ha : Snd G N a) (hk : Snd G N k) : Snd G N (.sub a k) := by
  intro S Wx sc X e c h
  cases e <;> try (simp [chk] at h; done)
  simp only [chk, Bool.and_eq_true] at h
  refine snd_val ?_ (fun _ => rfl) (fun _ _ _ z => nomatch z)
  refine PEimp (pe_ix ix_D (ha S Wx sc X _ c h.1.1).1 (hk S Wx sc X _ c h.1.2).1 (plainIx_of h.2)) fun σ H Q ⟨Hd, io, ro, st, l, rs, q⟩ => ?_
  simp only [ev] at q
  refine tM.go l rs q fun v H1 Hd1 io1 w st1 e1 l1 rs1 r1 q => ?_
  refine tM.go l1 rs1 q fun u H2 Hd2 io2 w2 st2 e2 l2 rs2 r2 q => ?_
  obtain ⟨d, hd, q⟩ := PX.okD q
  obtain ⟨x, y, p1, p2, hf⟩ := opt2_some hd
  exact ⟨Hd2, io2, st2, x, y, d, l2, peek_ok l2 (r1.mono e2) p1, peek_ok l2 r2 p2, hf, q⟩
/-! ### slices -/
def tP (S : IsX) (Wx : WX) (G : Gt) (K : PySem.W.Frag) (m : M) : TO := if isAbsent m = true then tNoPart else tPart (tM S Wx G K m)
theorem po_of (c : CtxOk G N S Wx sc X) {m : M} (hm : Snd G N m) {o : Option Expr} (h : (match o with
      | none => isAbsent m
      | some e => !isAbsent m && chk N sc m e) = true) : PO X o (tP S Wx G X.K m) := by
  cases o with
  | none =>
    unfold tP
    rw [if_pos h]
    exact po_none
  | some e =>
    simp only [Bool.and_eq_true, Bool.not_eq_true'] at h
    unfold tP
    rw [if_neg (by rw [h.1]; decide)]
    exact po_some (hm S Wx sc X _ c h.2).1
theorem part_not {m : M} (h : isAbsent m = false) (r : R W) (f : Option Int → Store → R W) (st : Store) : part m r f st = r.bind fun w st1 => match peek st1 w with
    | some (.int i) => f (some i) st1
    | _ => .bad := by
  cases m <;> first | rfl | (cases h; done)
theorem tP.go {K : PySem.W.Frag} {σ : L2.St} {H Hd : Hp} {io : List Addr} {ro : List (Option W)} {st : Store} {Q : VK} {Q1 : Option Int → Hp → Prop} {m : M} {f : Option Int → Store → R W} (l : Rl K Hd io st H) (rs : RelS K Hd io ro σ) (h : PX K (eX S Wx σ) Hd io H (RelW K) Q (part m (ev G m ro st) f st))
    (k : ∀ o H1 Hd1 io1 st1, Ext Hd io H Hd1 io1 H1 → Rl K Hd1 io1 st1 H1 → RelS K Hd1 io1 ro σ → PX K (eX S Wx σ) Hd1 io1 H1 (RelW K) Q (f o st1) → Q1 o H1) : tP S Wx G K m σ H Q1 := by
  unfold tP
  cases hm : isAbsent m with
  | true =>
    cases m <;> first | (cases hm; done) | skip
    exact k none H Hd io st Ext.refl l rs h
  | false =>
    rw [part_not hm] at h
    refine ⟨Hd, io, ro, st, l, rs, PX.bind h fun v H1 Hd1 io1 w st1 e1 l1 r1 q => ?_⟩
    split at q
    · rename_i i hp
      have := PkD.int (peek_ok l1 r1 hp)
      subst this
      exact ⟨i, rfl, k (some i) H1 Hd1 io1 st1 e1 l1 (rs.mono e1) q⟩
    · exact q.elim
theorem snd_slc (a lo hi : M) (ha : Snd G N a) (hl : Snd G N lo) (hh : Snd G N hi) : Snd G N (.slc a lo hi) := by
  intro S Wx sc X e c h
  cases e <;> try (simp [chk] at h; done)
  rename_i o i p
  cases i <;> try (simp [chk] at h; done)
  rename_i l u s p2
  cases s with
  | some _ => simp [chk] at h
  | none =>
    have h : (chk N sc a o && (match (generalizing := false) l with
      | none => isAbsent lo
      | some e => !isAbsent lo && chk N sc lo e) && (match (generalizing := false) u with
      | none => isAbsent hi
      | some e => !isAbsent hi && chk N sc hi e)) = true := h
    rw [Bool.and_eq_true, Bool.and_eq_true] at h
    refine snd_val ?_ (fun _ => rfl) (fun _ _ _ z => nomatch z)
    refine PEimp (pe_slice sl_D (ha S Wx sc X _ c h.1.1).1 (po_of c hl h.1.2) (po_of c hh h.2)) fun σ H Q ⟨Hd, io, ro, st, l, rs, q⟩ => ?_
    simp only [ev] at q
    refine tM.go l rs q fun v H1 Hd1 io1 w st1 e1 l1 rs1 r1 q => ?_
    refine tP.go l1 rs1 q fun o1 H2 Hd2 io2 st2 e2 l2 rs2 q => ?_
    refine tP.go l2 rs2 q fun o2 H3 Hd3 io3 st3 e3 l3 rs3 q => ?_
    obtain ⟨d, hd, q⟩ := PX.okD q
    cases hp : peek st3 w with
    | none => rw [hp] at hd; cases hd
    | some x => rw [hp] at hd; exact ⟨Hd3, io3, st3, x, d, l3, peek_ok l3 ((r1.mono e2).mono e3) hp, hd, q⟩
theorem snd_absent : Snd G N .absent := by
  intro S Wx sc X e c h
  cases e <;> simp [chk] at h
/-! ### builtins -/
theorem bi_mem (b : Bi) : b.name ∈ blts := by cases b <;> decide
theorem snd_bi (b : Bi) (es : Ms) (hs : AllSnd G N es) : Snd G N (.bi b es) := by
  intro S Wx sc X e c h
  cases e <;> try (simp [chk] at h; done)
  rename_i f xs kw p
  cases f <;> try (simp [chk] at h; done)
  rename_i x px
  cases xs with
  | nil => simp [chk] at h
  | cons e r =>
    cases kw with
    | cons _ _ => simp [chk] at h
    | nil =>
      simp only [chk, Bool.and_eq_true, decide_eq_true_eq] at h
      obtain ⟨⟨rfl, hg⟩, h⟩ := h
      obtain ⟨g1, g2⟩ := gl_of c hg
      have st := chks_stars h
      simp only [noStars, Bool.and_eq_true] at st
      have A := snds hs S Wx sc X _ c h
      have key : ∀ σ H Q, tM S Wx G X.K (.bi b es) σ H Q → tCB (rBiD X.K (biD b)) (tMs S Wx G X.K es) σ H Q := fun σ H Q ⟨Hd, io, ro, st, l, rs, q⟩ => by
        simp only [ev] at q
        refine tMs.go l rs q fun vs H1 Hd1 io1 ws st1 e1 l1 rs1 r1 q => ?_
        obtain ⟨d, hd, q⟩ := PX.okD q
        cases hp : peekAll st1 ws with
        | none => rw [hp] at hd; cases hd
        | some ds => rw [hp] at hd; exact ⟨Hd1, io1, st1, ds, d, l1, peekAll_ok l1 r1 hp, hd, q⟩
      refine snd_val ?_ (fun _ => rfl) (fun _ _ _ z => nomatch z)
      have hB := bi_D c.calm c.gd (Nat.lt_of_le_of_lt (by omega) c.room) b
      have hm := c.blt _ (bi_mem b)
      have s1 := star_plain (env := X.env) (es := r) st.1
      have s2 := star_none (env := X.env) (pos := p) st.2
      cases b with
      | int => exact PEimp (pe_callTy hB g1 hm rfl A (by decide) g2 s1 s2) key
      | str => exact PEimp (pe_callTy hB g1 hm rfl A (by decide) g2 s1 s2) key
      | tuple => exact PEimp (pe_callTy hB g1 hm rfl A (by decide) g2 s1 s2) key
      | list => exact PEimp (pe_callTy hB g1 hm rfl A (by decide) g2 s1 s2) key
      | len => exact PEimp (pe_callB hB g1 hm rfl A (by decide) g2 s1 s2) key
      | all => exact PEimp (pe_callB hB g1 hm rfl A (by decide) g2 s1 s2) key
      | any => exact PEimp (pe_callB hB g1 hm rfl A (by decide) g2 s1 s2) key
      | sum => exact PEimp (pe_callB hB g1 hm rfl A (by decide) g2 s1 s2) key
      | abs => exact PEimp (pe_callB hB g1 hm rfl A (by decide) g2 s1 s2) key
      | repr => exact PEimp (pe_callB hB g1 hm rfl A (by decide) g2 s1 s2) key
theorem ty_mem (t : Ty) : Str.ofString t.name ∈ blts := by cases t <;> decide
theorem ty_boot (t : Ty) : bootBuiltins (Str.ofString t.name) = some (.type t.name) := by cases t <;> rfl
theorem ty_not (t : Ty) : Str.ofString t.name ≠ ("__name__" : Str) := by cases t <;> decide
theorem snd_isi (a : M) (t : Ty) (ha : Snd G N a) : Snd G N (.isi a t) := by
  intro S Wx sc X e c h
  cases e <;> try (simp [chk] at h; done)
  rename_i f xs kw p
  cases f <;> try (simp [chk] at h; done)
  rename_i x px
  match xs, kw, h with
  | [e, .Name y py], [], h =>
    simp only [chk, Bool.and_eq_true, decide_eq_true_eq] at h
    obtain ⟨⟨⟨⟨⟨rfl, hg⟩, hg2⟩, rfl⟩, h1⟩, h2⟩ := h
    obtain ⟨g1, g2⟩ := gl_of c hg
    obtain ⟨t1, t2⟩ := gl_of c hg2
    refine snd_val ?_ (fun _ => rfl) (fun _ _ _ z => nomatch z)
    have A : PA X [e, .Name (Str.ofString t.name) py] (tCons (tM S Wx G X.K a) (tCons (tC (.ty t.name)) tNil)) :=
      pa_cons (ha S Wx sc X _ c h1).1 (pa_cons (pe_bltn t1 (c.blt _ (ty_mem t)) (ty_boot t) rfl (ty_not t) t2) pa_nil rfl) (star_plain h2)
    refine PEimp (pe_callB (call_isiD t) g1 (c.blt _ (by decide)) rfl A (by decide) g2 (star_plain h2) (star_none (es := [Expr.Name (Str.ofString t.name) py]) rfl)) fun σ H Q ⟨Hd, io, ro, st, l, rs, q⟩ => ?_
    simp only [ev] at q
    refine tM.go l rs q fun v H1 Hd1 io1 w st1 e1 l1 rs1 r1 q => ?_
    obtain ⟨b, hb, q⟩ := PX.okB q
    cases hp : peek st1 w with
    | none => rw [hp] at hb; cases hb
    | some d => rw [hp] at hb; exact ⟨v, Hd1, d, b, rfl, l1.sub, peek_ok l1 r1 hp, hb, Post.here q l1 (.bl b)⟩
theorem base_of {o : Expr} {nm : Str} (h : notBare o = true) : attributeBase o nm X.env (eval o X.env) = eval o X.env := by
  cases o <;> try rfl
  rename_i f xs kw p
  cases f <;> try rfl
  cases xs with
  | cons _ _ => rfl
  | nil =>
    cases kw with
    | cons _ _ => rfl
    | nil => simp [notBare] at h
theorem snd_mth (m : Mt) (o : M) (es : Ms) (ho : Snd G N o) (hs : AllSnd G N es) : Snd G N (.mth m o es) := by
  intro S Wx sc X e c h
  cases e <;> try (simp [chk] at h; done)
  rename_i f xs kw p
  cases f <;> try (simp [chk] at h; done)
  rename_i x nm ap
  cases kw with
  | cons _ _ => cases xs <;> simp [chk] at h
  | nil =>
    have go : ∀ σ H Q, tM S Wx G X.K (.mth m o es) σ H Q → tM S Wx G X.K o σ H fun a H1 => tyV X.K "str" a H1 ∧ tMs S Wx G X.K es σ H1 fun vs H2 => rMtD X.K (mtD m) a vs H2 Q := fun σ H Q ⟨Hd, io, ro, st, l, rs, q⟩ => by
      simp only [ev] at q
      refine tM.go l rs q fun v H1 Hd1 io1 w st1 e1 l1 rs1 r1 q => ?_
      split at q
      · rename_i z
        cases r1
        refine ⟨rfl, ?_⟩
        refine tMs.go l1 rs1 q fun vs H2 Hd2 io2 ws st2 e2 l2 rs2 r2 q => ?_
        obtain ⟨d, hd, q⟩ := PX.okD q
        cases hp : peekAll st2 ws with
        | none => rw [hp] at hd; cases hd
        | some ds => rw [hp] at hd; exact ⟨Hd2, io2, st2, .str z, ds, d, l2, .inl (.str z), peekAll_ok l2 r2 hp, hd, q⟩
      · exact q.elim
    cases xs with
    | nil =>
      simp only [chk, Bool.and_eq_true, decide_eq_true_eq] at h
      obtain ⟨⟨⟨⟨rfl, h1⟩, h2⟩, h3⟩, h4⟩ := h
      refine snd_val ?_ (fun _ => rfl) (fun _ _ _ z => nomatch z)
      refine PEimp (pe_bm0 PySem.F.plainAttrs_str (slot_mt m) (type_mt m) (mt_D m) (ho S Wx sc X _ c h3).1 (base_of h2) h1) fun σ H Q q => ?_
      cases es with
      | cons _ _ => simp [chks] at h4
      | nil =>
        obtain ⟨Hd, io, ro, st, l, rs, q⟩ := go σ H Q q
        refine ⟨Hd, io, ro, st, l, rs, PX.imp q fun v H' ⟨z1, z2⟩ => ⟨z1, ?_⟩⟩
        obtain ⟨Hd, io, ro, st, l, rs, q⟩ := z2
        simp only [evs] at q
        exact PX.here q l .nil
    | cons e r =>
      simp only [chk, Bool.and_eq_true, decide_eq_true_eq] at h
      obtain ⟨⟨⟨⟨⟨rfl, h1⟩, h2⟩, h5⟩, h3⟩, h4⟩ := h
      have st := chks_stars h4
      have st' := st
      simp only [noStars, Bool.and_eq_true] at st'
      refine snd_val ?_ (fun _ => rfl) (fun _ _ _ z => nomatch z)
      refine PEimp (pe_bm PySem.F.plainAttrs_str (slot_mt m) (type_mt m) (mt_D m) (ho S Wx sc X _ c h3).1 (snds hs S Wx sc X _ c h4) (base_of h2) ?_ h1 (star_plain st'.1) (star_none st'.2)) go
      rw [starAll st]
      simp only [Bool.true_and, List.length_cons]
      have : decide (r.length + 1 + ([] : List Keyword).length + (if ([] : List Keyword).isEmpty = true then 0 else 1) < 30) = true := by
        simp; omega
      rw [this]
      rfl
/-! ### calls of defs -/
theorem Ext.called {K : PySem.W.Frag} {Hd Hd' H H' : Hp} {io : List Addr} {st : Store} (l : Rl K Hd io st H) (e : Ext Hd [] H Hd' [] H') (le : Le Hd' H') : Ext Hd io H Hd' io H' ∧ Rl K Hd' io st H' := by
  refine ⟨⟨e.hd, fun a h1 h2 => ?_, ⟨[], by simp, by simp⟩, fun a o h _ => e.fr a o h (by simp), e.liv⟩, ⟨le, l.nd, l.len, fun n a c h1 h2 => ?_, fun a ha z => l.liv a ha (e.liv a z)⟩⟩
  · rcases e.new a h1 h2 with z | z
    · exact .inl z
    · cases z
  · have hc := l.cel n a c h1 h2
    have hm := List.mem_of_getElem? h1
    have low : Hd a = none → Hd' a = none := fun z => by
      cases q : Hd' a with
      | none => rfl
      | some u =>
        rcases e.new a z (by rw [q]; simp) with y | y
        · exact absurd y (l.liv a hm)
        · cases y
    cases c with
    | lst ds => obtain ⟨h3, vs, h4, h5⟩ := hc; exact ⟨low h3, vs, e.fr a _ h4 (by simp), h5.mono e.hd⟩
    | dic kvs => obtain ⟨h3, vs, h4, h5⟩ := hc; exact ⟨low h3, vs, e.fr a _ h4 (by simp), h5.mono e.hd⟩
    | frz ds => exact RelD.mono e.hd hc
    | obj c fs =>
      obtain ⟨h3, dx, vs, h4, h5, h6, h7, h8⟩ := hc
      refine ⟨low h3, dx, vs, e.fr a _ h4 (by simp), e.fr dx _ h5 (by simp), ?_, h7, h8.le e.hd⟩
      cases q : Hd' dx with
      | none => rfl
      | some u =>
        rcases e.new dx h6 (by rw [q]; simp) with y | y
        · rw [h5] at y; cases y
        · cases y
theorem call_shape {x : Str} {px p : Pos} {es : List Expr} {sp : Sp} {t : TA} {k : Nat} {fa : Addr} {fd : FuncData} {ps : List Str} (F : FnG X.prog X.w X.K X.mg X.base k fa fd ps sp) (hr : Room k X.A) (hgd : X.A.guards = some []) (hg : Gl X x) (hdb : (x == ("__debug__" : Str)) = false) (hm : X.mg x = some (.ref fa)) (hk : PySem.W.keepIn X.K (.ref fa) = true) (hb : L2.Binds X.K fd ps []) (tk : Takes X Wx)
    (ha : PA X es t) (hs : noStars es = true) (ht : es = [] → ∀ σ H Q, t σ H Q → Q [] H) : PE X (.Call (.Name x px) es [] p) (tCallG sp [] Wx t) := by
  cases es with
  | nil => exact PEimp (pe_callG0 F hr hgd hg hm hk hb .nil tk hdb) fun σ H Q q => ht rfl σ H _ q
  | cons e r =>
    simp only [noStars, Bool.and_eq_true] at hs
    exact pe_callG F hr hgd hg hm hk hb .nil tk ha hdb (star_plain hs.1) (star_none hs.2)
theorem tMs_nil {es : Ms} {K : PySem.W.Frag} (h : chks N sc es [] = true) (σ : L2.St) (H : Hp) (Q : List V → Hp → Prop) (q : tMs S Wx G K es σ H Q) : Q [] H := by
  cases es with
  | cons _ _ => simp [chks] at h
  | nil =>
    obtain ⟨Hd, io, ro, st, l, rs, q⟩ := q
    simp only [evs] at q
    exact PX.here q l .nil
theorem RelWs.length {K : PySem.W.Frag} {Hd : Hp} {io : List Addr} : ∀ {ws : List W} {vs : List V}, RelWs K Hd io ws vs → vs.length = ws.length
  | _, _, .nil => rfl
  | _, _, .cons _ r => by rw [List.length_cons, List.length_cons, RelWs.length r]
theorem snd_callP (f : Str) (es : Ms) (hs : AllSnd G N es) : Snd G N (.callP f es) := by
  intro S Wx sc X e c h
  cases e <;> try (simp [chk] at h; done)
  rename_i fn xs kw p
  cases fn <;> try (simp [chk] at h; done)
  rename_i x px
  cases kw with
  | cons _ _ => simp [chk] at h
  | nil =>
    simp only [chk, Bool.and_eq_true, decide_eq_true_eq] at h
    obtain ⟨⟨rfl, hg⟩, h⟩ := h
    obtain ⟨g1, g2⟩ := gl_of c hg
    refine snd_val ?_ (fun _ => rfl) (fun _ _ _ z => nomatch z)
    cases hF : G.fp x with
    | none =>
      refine PEimp (t := fun _ _ _ => False) ⟨fun _ _ _ _ _ _ h => h.elim⟩ fun σ H Q ⟨Hd, io, ro, st, l, rs, q⟩ => ?_
      simp only [ev, hF] at q
      exact q
    | some F =>
      obtain ⟨n, hn, k, fa, fd, ps, hl, F1, F2, F3, F4, F5⟩ := c.fp x F hF
      refine PEimp (call_shape F1 F2 c.gd g1 g2 F3 F4 F5 c.tk (snds hs S Wx sc X _ c h) (chks_stars h) fun z => by subst z; exact tMs_nil h) fun σ H Q ⟨Hd, io, ro, st, l, rs, q⟩ => ?_
      simp only [ev, hF] at q
      refine tMs.go l rs q fun vs H1 Hd1 io1 ws st1 e1 l1 rs1 r1 q => ?_
      obtain ⟨ds, Hd2, st2, e2, l2, r2, q⟩ := keepAll_bind l1 r1 q
      rw [List.append_nil]
      cases hy : F ds with
      | none => rw [hy] at q; exact q.elim
      | some y =>
        refine ⟨by rw [r2.length]; exact hn ds y hy, Hd2, ds, l2.sub, r2, ?_⟩
        rw [hy] at q ⊢
        cases y with
        | ok d =>
            intro v Hd' H' e3 le r3
            obtain ⟨e4, l4⟩ := Ext.called l2 e3 le
            exact q v Hd' io1 H' e4 l4 r3
        | error y =>
            intro Hd' H' cls dx e3 le r3
            obtain ⟨e4, l4⟩ := Ext.called l2 e3 le
            exact q Hd' io1 H' e4 l4 cls dx r3
theorem snd_callS (f : Str) (es : Ms) (hs : AllSnd G N es) : Snd G N (.callS f es) := by
  intro S Wx sc X e c h
  cases e <;> try (simp [chk] at h; done)
  rename_i fn xs kw p
  cases fn <;> try (simp [chk] at h; done)
  rename_i x px
  cases kw with
  | cons _ _ => simp [chk] at h
  | nil =>
    simp only [chk, Bool.and_eq_true, decide_eq_true_eq] at h
    obtain ⟨⟨rfl, hg⟩, h⟩ := h
    obtain ⟨g1, g2⟩ := gl_of c hg
    refine snd_val ?_ (fun _ => rfl) (fun _ _ _ z => nomatch z)
    cases hF : G.fs x with
    | none =>
      refine PEimp (t := fun _ _ _ => False) ⟨fun _ _ _ _ _ _ h => h.elim⟩ fun σ H Q ⟨Hd, io, ro, st, l, rs, q⟩ => ?_
      simp only [ev, hF] at q
      exact q
    | some F =>
      obtain ⟨n, hn, k, fa, fd, ps, hl, F1, F2, F3, F4, F5⟩ := c.fs x F hF
      refine PEimp (call_shape F1 F2 c.gd g1 g2 F3 F4 F5 c.tk (snds hs S Wx sc X _ c h) (chks_stars h) fun z => by subst z; exact tMs_nil h) fun σ H Q ⟨Hd, io, ro, st, l, rs, q⟩ => ?_
      simp only [ev, hF] at q
      refine tMs.go l rs q fun vs H1 Hd1 io1 ws st1 e1 l1 rs1 r1 q => ?_
      rw [List.append_nil]
      refine ⟨by rw [r1.length]; exact hn ws st1 fun z => by rw [z] at q; exact q, Hd1, io1, st1, ws, l1, r1, q⟩
end Ev
set_option Elab.async false
set_option linter.all false
set_option maxRecDepth 100000
set_option maxHeartbeats 1000000
namespace Ev
open PySem PySem.Spec PyProof.Rows L2
variable {G : Gt} {N : List Str} {S : IsX} {Wx : WX} {sc : Scope} {X : Cx}
/-! ### exceptions made, looked at -/
theorem zip_rev {α β : Type} : ∀ {xs : List α} {ys : List β}, xs.length = ys.length → (xs.zip ys).reverse = xs.reverse.zip ys.reverse
  | [], [], _ => rfl
  | [], _ :: _, h => by cases h
  | _ :: _, [], h => by cases h
  | x :: xs, y :: ys, h => by
    have h' : xs.length = ys.length := by simpa using h
    rw [List.zip_cons_cons, List.reverse_cons, zip_rev h', List.reverse_cons, List.reverse_cons, List.zip_append (by simp [h'])]
    rfl
theorem RelDs.reverse {K : PySem.W.Frag} {H : Hp} {vs : List V} {ds : List D} (r : RelDs K H vs ds) : RelDs K H vs.reverse ds.reverse := by
  have go : ∀ (vs : List V) (ds : List D) (us : List V) (es : List D), RelDs K H vs ds → RelDs K H us es → RelDs K H (vs.reverse ++ us) (ds.reverse ++ es) := by
    intro vs
    induction vs with
    | nil => intro ds us es h k; cases h; exact k
    | cons v vs ih =>
      intro ds us es h k
      cases h with
      | cons h1 h2 =>
        rw [List.reverse_cons, List.reverse_cons, List.append_assoc, List.append_assoc]
        exact ih _ _ _ h2 (.cons h1 k)
  have := go vs ds [] [] r .nil
  simpa using this
theorem tMs_mono {m : Ms} {σ : L2.St} {H : Hp} {Q Q' : List V → Hp → Prop} (h : tMs S Wx G X.K m σ H Q) (k : ∀ vs H1, Q vs H1 → Q' vs H1) : tMs S Wx G X.K m σ H Q' := by
  obtain ⟨Hd, io, ro, st, l, rs, q⟩ := h
  exact ⟨Hd, io, ro, st, l, rs, PX.imp q k⟩
/-- behind the arguments -/
theorem mk_own_here {K : PySem.W.Frag} {c : Str} {Hd : Hp} {io : List Addr} {st : Store} {H : Hp} {a : Addr} (l : Rl K Hd io st H) (na : H a = none) :
    ∃ Hd', Ext Hd io H Hd' io (upd H a (exq (.ref (He.ga K c)) none a)) ∧ Rl K Hd' io st (upd H a (exq (.ref (He.ga K c)) none a)) ∧ RelD K Hd' (.ref a) (.exv c [] []) := by
  obtain ⟨l3, e3⟩ := l.newD na (exq (.ref (He.ga K c)) none a)
  exact ⟨_, e3, l3, .exv0 upd_same⟩
theorem mk_ini_here {K : PySem.W.Frag} {c : Str} {ks : List Str} {vs : List V} {ds : List D} {Hd : Hp} {io : List Addr} {st : Store} {H : Hp} {a d : Addr} (l : Rl K Hd io st H) (nd : H d = none) (hk : ks.length = vs.length) (r : RelDs K Hd vs ds) (na : upd H d (.xd (ks.zip vs)) a = none) :
    ∃ Hd', Ext Hd io H Hd' io (upd (upd H d (.xd (ks.zip vs))) a (exq (.ref (He.ga K c)) (some d) a)) ∧ Rl K Hd' io st (upd (upd H d (.xd (ks.zip vs))) a (exq (.ref (He.ga K c)) (some d) a)) ∧ RelD K Hd' (.ref a) (.exv c ks ds) := by
  obtain ⟨l1, e1⟩ := l.newD nd (.xd (ks.zip vs))
  obtain ⟨l3, e3⟩ := l1.newD na (exq (.ref (He.ga K c)) (some d) a)
  have hda : d ≠ a := fun z => by rw [← z, upd_same] at na; cases na
  exact ⟨_, e1.trans e3, l3, .exv upd_same (by rw [upd_ne hda, upd_same]) hk ((r.mono e1.hd).mono e3.hd)⟩
theorem snd_mk (y : Str) (es : Ms) (hs : AllSnd G N es) : Snd G N (.mk y es) := by
  intro S Wx sc X e c h
  cases e <;> try (simp [chk] at h; done)
  rename_i f xs kw p
  cases f <;> try (simp [chk] at h; done)
  rename_i x px
  match xs, kw, h with
  | a :: r, [], h =>
    simp only [chk, Bool.and_eq_true, decide_eq_true_eq] at h
    obtain ⟨⟨rfl, hg⟩, h1⟩ := h
    obtain ⟨g1, g2⟩ := gl_of c hg
    have st := chks_stars h1
    have st' := st
    simp only [noStars, Bool.and_eq_true] at st'
    refine snd_val ?_ (fun _ => rfl) (fun _ _ _ z => nomatch z)
    cases hm : G.mke x with
    | none =>
      refine PEimp (t := fun _ _ _ => False) ⟨fun _ _ _ _ _ _ h => h.elim⟩ fun σ H Q ⟨Hd, io, ro, st, l, rs, q⟩ => ?_
      unfold ev at q
      rw [hm] at q
      exact q
    | some k =>
      cases k with
      | own =>
        refine PEimp (pe_of_mk (pmk_own0 (ta := tMs S Wx G X.K es) (fun _ _ _ _ => tMs_mono) (c.mke _ _ hm) g1 (snds hs S Wx sc X _ c h1) g2 (star_plain st'.1) (star_none st'.2))) fun σ H Q ⟨Hd, io, ro, st, l, rs, q⟩ => ?_
        unfold ev at q
        rw [hm] at q
        refine tMs.go l rs q fun vs H1 Hd1 io1 ws st1 e1 l1 rs1 r1 q => ?_
        obtain ⟨ds, Hd2, st2, e2, l2, r2, q⟩ := keepAll_bind l1 r1 q
        obtain ⟨d, hd, q⟩ := PX.okD q
        simp only [mkD] at hd
        split at hd
        · rename_i hz
          cases hd
          refine ⟨by rw [r2.length]; exact hz, fun a na => ?_⟩
          obtain ⟨Hd3, e3, l3, r3⟩ := mk_own_here (c := x) l2 na
          exact q _ _ _ _ e3 l3 r3
        · cases hd
      | ini f fs =>
        refine PEimp (pe_of_mk (pmk_ini (ta := tMs S Wx G X.K es) (fun _ _ _ _ => tMs_mono) (c.mke _ _ hm) c.rm g1 (snds hs S Wx sc X _ c h1) g2 (star_plain st'.1) (star_none st'.2))) fun σ H Q ⟨Hd, io, ro, st, l, rs, q⟩ => ?_
        unfold ev at q
        rw [hm] at q
        refine tMs.go l rs q fun vs H1 Hd1 io1 ws st1 e1 l1 rs1 r1 q => ?_
        obtain ⟨ds, Hd2, st2, e2, l2, r2, q⟩ := keepAll_bind l1 r1 q
        obtain ⟨d, hd, q⟩ := PX.okD q
        simp only [mkD] at hd
        split at hd
        · rename_i hz
          cases hd
          have hl : vs.length = (f :: fs).length := by rw [r2.length]; exact hz.1
          refine ⟨by rw [r2.length]; exact hz.2, hl, fun d nd a na => ?_⟩
          rw [zip_rev hl.symm] at na ⊢
          obtain ⟨Hd3, e3, l3, r3⟩ := mk_ini_here (c := x) l2 nd (by simp only [List.length_reverse]; exact hl.symm) r2.reverse na
          exact q _ _ _ _ e3 l3 r3
        · cases hd
theorem lookF_rel {K : PySem.W.Frag} {H : Hp} : ∀ {ks : List Str} {vs : List V} {xs : List D} {f : Str} {d : D}, ks.length = vs.length → RelDs K H vs xs → lookF ks xs f = some d → ∃ v, (ks.zip vs).lookup f = some v ∧ RelD K H v d
  | [], _, _, _, _, _, _, h => by cases h
  | k :: ks, [], _, _, _, e, _, _ => by cases e
  | k :: ks, v :: vs, _, f, d, e, .cons r rs, h => by
    simp only [lookF] at h
    rw [List.zip_cons_cons, lookup_put]
    by_cases z : f = k
    · rw [if_pos z] at h ⊢; cases h; exact ⟨v, rfl, r⟩
    · rw [if_neg z] at h ⊢; exact lookF_rel (by simpa using e) rs h
theorem RelFs.look {K : PySem.W.Frag} {Hd : Hp} {io : List Addr} {f : Str} {w : Ev.W} : ∀ {vs : List (Str × V)} {ws : List (Str × Ev.W)}, RelFs K Hd io vs ws → look1 ws f = some w → ∃ v, vs.lookup f = some v ∧ RelW K Hd io w v
  | _, _, .nil, z => by cases z
  | _, _, .cons (f := g) (v := v) (vs := vs) h k, z => by
    simp only [look1] at z
    split at z
    · rename_i e; cases z; refine ⟨v, ?_, h⟩; subst e; simp [List.lookup]
    · rename_i ne
      obtain ⟨u, h1, h2⟩ := RelFs.look k z
      refine ⟨u, ?_, h2⟩
      rw [List.lookup_cons, beq_eq_false_iff_ne.mpr ne]
      exact h1
theorem RelFs.look_none {K : PySem.W.Frag} {Hd : Hp} {io : List Addr} {f : Str} : ∀ {vs : List (Str × V)} {ws : List (Str × Ev.W)}, RelFs K Hd io vs ws → look1 ws f = none → vs.lookup f = none
  | _, _, .nil, _ => rfl
  | _, _, .cons (f := g) h k, z => by
    simp only [look1] at z
    split at z
    · cases z
    · rename_i ne
      rw [List.lookup_cons, beq_eq_false_iff_ne.mpr ne]
      exact RelFs.look_none k z
theorem PX.okW {K : PySem.W.Frag} {EX : EXT} {Hd H : Hp} {io : List Addr} {Q : VK} {o : Option Ev.W} {st : Store} (h : PX K EX Hd io H (RelW K) Q (okW o st)) : ∃ d, o = some d ∧ Post K Hd io H (RelW K) Q (.ok d st) := by
  cases o with
  | none => exact h.elim
  | some d => exact ⟨d, rfl, h⟩
/-- o.f: of an exception, of an instance -/
theorem pe_fld2 {te : TE} {o : Expr} {f : Str} {pos : Pos} (he : PE X o te) (hb : attributeBase o f X.env (eval o X.env) = eval o X.env) :
    PE X (.Attribute o f pos) (fun σ H Q => te σ H fun x H1 => (∃ (a C dx : Addr) (fs : List (Str × V)) (v : V), x = .ref a ∧ H1 a = some (exq (.ref C) (some dx) a) ∧ H1 dx = some (.xd fs) ∧ ExC X.K C ∧ PySem.W.findIn X.K (.ref C) f = some none ∧ fs.lookup f = some v ∧ Q v H1) ∨ (∃ (a C dx : Addr) (fs : List (Str × V)) (v : V), x = .ref a ∧ H1 a = some (.ins C dx fs) ∧ L2.Cls X.K C ∧ L2.NoAttr X.K C f ∧ fs.lookup f = some v ∧ Q v H1)) := by
  refine ⟨fun pins s σ H Q I h => ?_⟩
  refine attr_of hb (thn (he.run pins s σ H _ I h) fun u s1 hh => ?_)
  obtain ⟨x, H1, I1, rx, ⟨a, C, dx, fs, v, rfl, ea, ed, T, hno, l, q⟩ | ⟨a, C, dx, fs, v, rfl, ea, c, n, l, q⟩⟩ := hh
  · obtain rfl : u = Value.ref a := rx
    obtain ⟨oe, vs, ho, ⟨z1, z2⟩, hd⟩ := exq_at I1.hok ea
    have hx : ObjOk X.prog X.w H1 s1.heap dx (.xd fs) := I1.hok dx _ ed
    obtain ⟨mA, hns, hr⟩ := hx
    obtain ⟨od, ho2, hl⟩ := lookIn_ns hns
    obtain ⟨u, hu, ru⟩ := RelO.some_of (v := v) (o := mA f) (by rw [← l]; exact hr f)
    have J : PySem.W.InstAt s1.heap a oe C (some od) := ⟨ho, z1, by unfold PySem.W.notCls; rw [hd] <;> rfl, by rw [z2]; exact ho2⟩
    exact HandSPX.exc_get I1.kIn J T.hg T.hk T.hs (PySem.W.findObj_own T.hd hno rfl (by rw [hl, hu])) (handed_of ru) ⟨v, H1, I1.tok _, ru, q⟩
  · obtain rfl : u = Value.ref a := rx
    exact getattr_ok I1 ea c n l fun u' s2 I2 ru => ⟨v, H1, I2, ru, q⟩
theorem snd_fld (o : M) (f : Str) (ho : Snd G N o) : Snd G N (.fld o f) := by
  intro S Wx sc X e c h
  cases e <;> try (simp [chk] at h; done)
  rename_i x nm p
  simp only [chk, Bool.and_eq_true, decide_eq_true_eq] at h
  obtain ⟨⟨rfl, h1⟩, h2⟩ := h
  refine snd_val ?_ (fun _ => rfl) (fun _ _ _ z => nomatch z)
  refine PEimp (pe_fld2 (ho S Wx sc X _ c h2).1 (base_of h1)) fun σ H Q ⟨Hd, io, ro, st, l, rs, q⟩ => ?_
  simp only [ev] at q
  refine tM.go l rs q fun v H1 Hd1 io1 w st1 e1 l1 rs1 r1 q => ?_
  obtain ⟨d, hd, q2⟩ := PX.okW q
  clear q
  unfold fldD at hd
  split at hd
  · rename_i cc ks xs
    refine .inl ?_
    split at hd
    · rename_i hf
      obtain ⟨T, hno⟩ := c.fld _ _ hf
      cases (show RelD X.K Hd1 v (.exv cc ks xs) from r1) with
      | exv0 _ => cases hd
      | exv h1 h2 hl r =>
        cases hk : lookF ks xs nm with
        | none => rw [hk] at hd; cases hd
        | some d1 =>
          rw [hk] at hd
          cases hd
          obtain ⟨v, k1, k2⟩ := lookF_rel hl r hk
          exact ⟨_, _, _, _, v, rfl, l1.sub _ _ h1, l1.sub _ _ h2, T, hno, k1, Post.here q2 l1 k2⟩
    · cases hd
  · rename_i n
    refine .inr ?_
    split at hd
    · rename_i cc fs hst
      split at hd
      · rename_i hf
        obtain ⟨C, hno⟩ := c.cfl _ _ hf
        obtain ⟨a, rfl, ha⟩ := r1
        obtain ⟨_, dx, vs, hins, _, _, _, rfs⟩ := l1.cel n a _ ha hst
        obtain ⟨v, k1, k2⟩ := rfs.look hd
        exact ⟨a, _, dx, vs, v, rfl, hins, C, hno, k1, Post.here q2 l1 k2⟩
      · cases hd
    · cases hd
  · cases hd
theorem exH_of {K : PySem.W.Frag} {H : Hp} {v : V} {c : Str} {ks : List Str} {xs : List D} (r : RelD K H v (.exv c ks xs)) : ∃ a d, v = .ref a ∧ ExH H a (He.ga K c) d := by
  cases r with
  | exv0 h => exact ⟨_, none, rfl, h, fun _ z => nomatch z⟩
  | exv h1 h2 _ _ => exact ⟨_, some _, rfl, h1, fun dx z => by cases z; exact ⟨_, h2⟩⟩
theorem snd_isx (m : M) (y : Str) (ha : Snd G N m) : Snd G N (.isx m y) := by
  intro S Wx sc X e c h
  cases e <;> try (simp [chk] at h; done)
  rename_i f xs kw p
  cases f <;> try (simp [chk] at h; done)
  rename_i x px
  match xs, kw, h with
  | [e, .Name z pz], [], h =>
    simp only [chk, Bool.and_eq_true, decide_eq_true_eq] at h
    obtain ⟨⟨⟨⟨⟨rfl, hg⟩, rfl⟩, hg2⟩, h1⟩, h2⟩ := h
    obtain ⟨g1, g2⟩ := gl_of c hg
    obtain ⟨t1, t2⟩ := gl_of c hg2
    refine snd_val ?_ (fun _ => rfl) (fun _ _ _ z => nomatch z)
    have go : ∀ (t : TE), PE X (.Name z pz) t → PE X (.Call (.Name "isinstance" px) [e, .Name z pz] [] p) (tCB (rIsQ X.K) (tCons (tM S Wx G X.K m) (tCons t tNil))) := fun t ht =>
      pe_callB call_isQ g1 (c.blt _ (by decide)) rfl (pa_cons (ha S Wx sc X _ c h1).1 (pa_cons ht pa_nil rfl) (star_plain h2)) (by decide) g2 (star_plain h2) (star_none (es := [Expr.Name z pz]) rfl)
    refine ⟨fun pins s σ H Q I ⟨Hd, io, ro, st, l, rs, q⟩ => ?_⟩
    simp only [ev] at q
    cases hev : ev G m ro st with
    | bad => rw [hev] at q; exact q.elim
    | exc x st1 =>
      refine (go (fun _ _ _ => False) ⟨fun _ _ _ _ _ _ h => h.elim⟩).run pins s σ H Q I ⟨Hd, io, ro, st, l, rs, ?_⟩
      rw [hev] at q ⊢
      exact q
    | ok w st1 =>
      rw [hev, R.bind_ok] at q
      cases hb : isxD G z w with
      | none => rw [hb] at q; exact q.elim
      | some b =>
        unfold isxD at hb
        split at hb
        · rename_i cc ks xs
          obtain ⟨T, alt⟩ := c.sub _ _ _ hb
          have done : ∀ (v : V) (cv : Value), (∀ u, RelV v u → u = cv) → PySem.W.kitOne X.K (.ref (He.ga X.K cc)) cv = some b → PE X (.Name z pz) (tC v) → wpAny (model X.prog X.w) X.A (eval (.Call (.Name "isinstance" px) [e, .Name z pz] [] p) X.env) (EP X pins σ Q) X.xe s := fun v cv hv hk hp => by
            refine (go _ hp).run pins s σ H Q I ⟨Hd, io, ro, st, l, rs, ?_⟩
            rw [hev]
            intro v1 Hd1 io1 H1 e1 l1 r1
            obtain ⟨a, d, rfl, ex⟩ := exH_of r1
            refine ⟨a, _, d, v, cv, b, rfl, ⟨l1.sub _ _ ex.1, fun dx hx => ?_⟩, T, hv, hk, ?_⟩
            · obtain ⟨fs, z⟩ := ex.2 dx hx
              exact ⟨fs, l1.sub _ _ z⟩
            · rw [show isxD G z (.d (.exv cc ks xs)) = some b from hb] at q
              exact q _ _ _ _ e1 l1 (.bl b)
          rcases alt with ⟨k1, k2⟩ | ⟨k1, n, k2, k3, k4⟩
          · exact done (.ref (He.ga X.K z)) _ (fun u r => r) k2 (pe_glob t1 k1 rfl t2)
          · exact done (.ty n) _ (fun u r => r) k4 (pe_bltn t1 k1 k2 rfl k3 t2)
        · cases hb
end Ev
namespace Ev
open PySem PySem.Spec PyProof.Rows L2
variable {G : Gt} {N : List Str} {S : IsX} {Wx : WX} {sc : Scope} {X : Cx}
theorem idxS_ok {z : Str} : ∀ {ys : List Str} {j : Nat}, idxS z ys = some j → ys[j]? = some z ∧ ∀ m, m < j → ys[m]? ≠ some z
  | [], j, h => by cases h
  | y :: ys, j, h => by
    simp only [idxS] at h
    split at h
    · rename_i e
      cases h
      exact ⟨by rw [← e]; rfl, fun m hm => by omega⟩
    · rename_i e
      cases hk : idxS z ys with
      | none => rw [hk] at h; cases h
      | some k =>
        rw [hk] at h; cases h
        obtain ⟨h1, h2⟩ := idxS_ok hk
        refine ⟨by simpa using h1, fun m hm => ?_⟩
        cases m with
        | zero => simpa using e
        | succ m => simpa using h2 m (by have hm' : m + 1 < k + 1 := hm; omega)
theorem snd_tix (y : Str) (m : M) (hm : Snd G N m) : Snd G N (.tix y m) := by
  intro S Wx sc X e c h
  unfold chk at h
  split at h <;> first | (cases h; done) | (rename_i q; cases q; done) | skip
  rename_i _ _ y' m' x px nm ap a cp heq
  cases heq
  simp only [Bool.and_eq_true, decide_eq_true_eq] at h
  obtain ⟨⟨⟨⟨⟨rfl, hg⟩, rfl⟩, hl⟩, hst⟩, h1⟩ := h
  obtain ⟨g1, g2⟩ := gl_of c hg
  refine snd_val ?_ (fun _ => rfl) (fun _ _ _ z => nomatch z)
  cases ht : G.tix x with
  | none =>
    refine PEimp (t := fun _ _ _ => False) ⟨fun _ _ _ _ _ _ h => h.elim⟩ fun σ H Q ⟨Hd, io, ro, st, l, rs, q⟩ => ?_
    simp only [ev, ht] at q
    exact q
  | some ys =>
    obtain ⟨t1, t2, t3⟩ := c.tix _ _ ht
    have s1 : starEach [a] X.env = (false, eval a X.env) :: starEach [] X.env := star_plain hst
    refine PEimp (pe_bm (T := "tuple") PySem.F.plainAttrs_tuple PySem.F.slot_tuple_index PySem.F.type_tuple_index mt_tup_index (pe_glob g1 t1 (v := .ref (He.ga X.K x)) rfl g2) (pa_cons (hm S Wx _ X _ c h1).1 pa_nil s1) rfl
      (by rw [starAll (by simp [noStars, hst])]; rfl) hl s1 rfl) fun σ H Q ⟨Hd, io, ro, st, l, rs, q⟩ => ?_
    simp only [ev, ht] at q
    refine ⟨.inr (.inl ⟨rfl, t3⟩), ?_⟩
    refine tM.go l rs q fun v H1 Hd1 io1 w st1 e1 l1 rs1 r1 q => ?_
    obtain ⟨d, hd, q2⟩ := PX.okD q
    clear q
    split at hd
    · rename_i z
      cases hj : idxS z ys with
      | none => rw [hj] at hd; cases hd
      | some j =>
        rw [hj] at hd; cases hd
        cases r1
        obtain ⟨k1, k2⟩ := idxS_ok hj
        exact ⟨_, ys, z, j, rfl, rfl, t2 _, k1, k2, Post.here q2 l1 (.int _)⟩
    · cases hd
theorem snd_lstc (es : Ms) (hs : AllSnd G N es) : Snd G N (.lstc es) := by
  intro S Wx sc X e c h
  cases e <;> try (simp [chk] at h; done)
  simp only [chk] at h
  refine snd_val ?_ (fun _ => rfl) (fun _ _ _ z => nomatch z)
  refine PEimp (pe_lst (snds hs S Wx sc X _ c h)) fun σ H Q ⟨Hd, io, ro, st, l, rs, q⟩ => ?_
  simp only [ev] at q
  refine tMs.go l rs q fun vs H1 Hd1 io1 ws st1 e1 l1 rs1 r1 q => ?_
  obtain ⟨ds, Hd2, st2, e2, l2, r2, q⟩ := keepAll_bind l1 r1 q
  split at q
  · rename_i hz
    refine ⟨by rw [r2.length]; exact size1000 hz, fun p hp => ?_⟩
    obtain ⟨l', e'⟩ := l2.newC (o := .lst vs) (c := .lst ds) hp ⟨l2.fresh hp, vs, upd_same, r2⟩
    exact q _ _ _ _ e' l' (relW_last l2)
  · exact q.elim
theorem snd_addc (a b : M) (ha : Snd G N a) (hb : Snd G N b) : Snd G N (.addc a b) := by
  intro S Wx sc X e c h
  cases e <;> try (simp [chk] at h; done)
  rename_i x o y p
  simp only [chk, Bool.and_eq_true, decide_eq_true_eq] at h
  obtain ⟨⟨rfl, h1⟩, h2⟩ := h
  refine snd_val ?_ (fun _ => rfl) (fun _ _ _ z => nomatch z)
  refine PEimp (pe_op op_cat (ha S Wx sc X _ c h1).1 (hb S Wx sc X _ c h2).1) fun σ H Q ⟨Hd, io, ro, st, l, rs, q⟩ => ?_
  simp only [ev] at q
  refine tM.go l rs q fun v H1 Hd1 io1 w st1 e1 l1 rs1 r1 q => ?_
  refine tM.go l1 rs1 q fun u H2 Hd2 io2 w2 st2 e2 l2 rs2 r2 q => ?_
  split at q
  · rename_i xs ys p1 p2
    split at q
    · rename_i hz
      obtain ⟨q1, vs, rfl, k1, s1⟩ := (peek_ok l2 (r1.mono e2) p1).list l2.sub
      obtain ⟨q2, us, rfl, k2, s2⟩ := (peek_ok l2 r2 p2).list l2.sub
      refine ⟨q1, q2, vs, us, rfl, rfl, k1, k2, by rw [s1.length, s2.length]; exact hz, fun p hp => ?_⟩
      obtain ⟨l', e'⟩ := l2.newC (o := .lst (vs ++ us)) (c := .lst (xs ++ ys)) hp ⟨l2.fresh hp, _, upd_same, s1.append s2⟩
      exact q _ _ _ _ e' l' (relW_last l2)
    · exact q.elim
  · exact q.elim
theorem lookK_none {K : PySem.W.Frag} {H : Hp} {k : Key} : ∀ {vs : List (Key × V)} {ds : List (Key × D)}, RelKV K H vs ds → (valV vs k).isSome = (lookK ds k).isSome := by
  intro vs ds r
  cases h : lookK ds k with
  | some d =>
    obtain ⟨v, h1, _⟩ := lookK_rel r h
    rw [h1]; rfl
  | none =>
    induction r with
    | nil => rfl
    | @cons k' v d vs ds rd r ih =>
      unfold lookK at h
      rw [List.find?_cons] at h
      by_cases z : k' = k
      · rw [decide_eq_true (by exact z)] at h; cases h
      · rw [decide_eq_false (by exact z)] at h
        have := ih h
        unfold valV at this ⊢
        rw [List.find?_cons, decide_eq_false (by exact z)]
        exact this
theorem kinD_ok {st : Store} {k a : W} {b : Bool} (h : kinD st k a = some b) : ∃ n kd kvs key, a = .cell n ∧ k = .d kd ∧ st[n]? = some (.dic kvs) ∧ keyOf kd = some key ∧ (lookK kvs key).isSome = b := by
  unfold kinD at h
  split at h
  · split at h
    · rename_i h1 h2
      cases h
      exact ⟨_, _, _, _, rfl, rfl, h1, h2, rfl⟩
    · cases h
  · cases h
theorem snd_kin (neg : Bool) (k d : M) (hk : Snd G N k) (hd : Snd G N d) : Snd G N (.kin neg k d) := by
  intro S Wx sc X e c h
  cases e <;> try (simp [chk] at h; done)
  rename_i x ops ys p
  match ops, ys, h with
  | [o], [y], h =>
    simp only [chk, Bool.and_eq_true, decide_eq_true_eq] at h
    obtain ⟨⟨⟨rfl, h1⟩, h2⟩, h3⟩ := h
    have go : ∀ (σ : L2.St) (H : Hp) (Q : VK), tM S Wx G X.K (.kin neg k d) σ H Q → tM S Wx G X.K k σ H fun y H1 => tM S Wx G X.K d σ H1 fun x H2 => ∃ a o, x = .ref a ∧ DGet H2 a y o ∧ Q (.bl (o.isSome != neg)) H2 := fun σ H Q ⟨Hd, io, ro, st, l, rs, q⟩ => by
      simp only [ev] at q
      refine tM.go l rs q fun v H1 Hd1 io1 w st1 e1 l1 rs1 r1 q => ?_
      refine tM.go l1 rs1 q fun u H2 Hd2 io2 w2 st2 e2 l2 rs2 r2 q => ?_
      obtain ⟨b, hb, q2⟩ := PX.okB q
      clear q
      cases hq : kinD st2 w w2 with
      | none => rw [hq] at hb; cases hb
      | some b0 =>
        rw [hq] at hb
        cases hb
        obtain ⟨n, kd, kvs, key, rfl, rfl, k1, k2, k3⟩ := kinD_ok hq
        obtain ⟨p, rfl, hp⟩ := r2
        obtain ⟨_, vs, k4, k5⟩ := l2.cel n p _ hp k1
        refine ⟨p, valV vs key, rfl, .inl ⟨vs, key, .inl k4, keyOf_kV k2 (r1.mono e2), rfl⟩, ?_⟩
        rw [lookK_none k5, k3]
        exact Post.here q2 l2 (.bl _)
    have hB : IsB G (.kin neg k d) := by
      intro ro st w st' h
      simp only [ev] at h
      cases h1 : ev G k ro st with
      | bad => rw [h1] at h; cases h
      | exc _ _ => rw [h1] at h; cases h
      | ok wa st1 =>
        rw [h1, R.bind_ok] at h
        cases h2 : ev G d ro st1 with
        | bad => rw [h2] at h; cases h
        | exc _ _ => rw [h2] at h; cases h
        | ok wb st2 =>
          rw [h2, R.bind_ok] at h
          cases h3 : (kinD st2 wa wb).map fun b => b != neg with
          | none => rw [h3] at h; cases h
          | some z => rw [h3] at h; cases h; exact ⟨z, rfl⟩
    cases neg with
    | true =>
      have P := pc_dnotin (Nat.lt_of_le_of_lt (by omega) c.room) (hk S Wx sc X _ c h1).1 (hd S Wx sc X _ c h2).1
      have im : ∀ (σ : L2.St) (H : Hp) (Q : VK), tM S Wx G X.K (.kin true k d) σ H Q → tDNotIn (tM S Wx G X.K k) (tM S Wx G X.K d) σ H Q := fun σ H Q q => by
        have := go σ H Q q
        simp only [Bool.bne_true] at this
        exact this
      exact ⟨PEimp (pe_cmp P (behind_of h3)) im, PTimp (pt_cmp P (behind_of h3)) fun σ H Q q => im σ H _ (tT_bool hB q), fun _ _ _ z => nomatch z⟩
    | false =>
      have P := pc_din (Nat.lt_of_le_of_lt (by omega) c.room) (hk S Wx sc X _ c h1).1 (hd S Wx sc X _ c h2).1
      have im : ∀ (σ : L2.St) (H : Hp) (Q : VK), tM S Wx G X.K (.kin false k d) σ H Q → tDIn (tM S Wx G X.K k) (tM S Wx G X.K d) σ H Q := fun σ H Q q => by
        have := go σ H Q q
        simp only [Bool.bne_false] at this
        exact this
      exact ⟨PEimp (pe_cmp P (behind_of h3)) im, PTimp (pt_cmp P (behind_of h3)) fun σ H Q q => im σ H _ (tT_bool hB q), fun _ _ _ z => nomatch z⟩
  | [], _, h => simp [chk] at h
  | [_], [], h => simp [chk] at h
  | [_], _ :: _ :: _, h => simp [chk] at h
  | _ :: _ :: _, _, h => simp [chk] at h
end Ev
set_option Elab.async false
set_option linter.all false
set_option maxRecDepth 100000
set_option maxHeartbeats 1000000
namespace Ev
open PySem PySem.Spec PyProof.Rows L2
variable {G : Gt} {N : List Str} {S : IsX} {Wx : WX} {sc : Scope} {X : Cx}
/-! ### instances: made, methods -/
theorem run_makeG {k : Nat} {f C : Addr} {fd : FuncData} {ps : List Str} {sp : Sp} {W : WX} {pins : List (Addr × Obj)} {σ : L2.St} {H : Hp} {s : Shared} {Q : VK} {us : List Value} {vs : List V} (M : L2.Mk X.K C f) (F : FnG X.prog X.w X.K X.mg X.base k f fd ps sp) (hr : Room (k + 1) X.A) (hgd : X.A.guards = some []) (hb : L2.Binds X.K fd ps [])
    (tk : Takes X W) (I : Inv X pins σ H s) (r : Vals vs us)
    (h : ∀ x dx, H x = none → H dx = none → dx ≠ x → sp (.ref x :: vs) (upd (upd H dx (.own x)) x (.ins C dx [])) (fun v H2 => v = .non ∧ Q (.ref x) H2) fun cls d H2 => W cls d σ H2) :
    wpAny (model X.prog X.w) X.A (call (.ref C) us) (EP X pins σ Q) X.xe s := by
  have hq := h (s.heap.objs.size + 1) s.heap.objs.size (I.hok.fresh (Nat.le_succ _)) (I.hok.fresh (Nat.le_refl _)) (Nat.ne_of_lt (Nat.lt_succ_self _))
  have I2 := Inv.made (C := C) I
  have r2 : Vals (V.ref (s.heap.objs.size + 1) :: vs) (Value.ref (s.heap.objs.size + 1) :: us) := .cons rfl r
  have hl : (Value.ref (s.heap.objs.size + 1) :: us ++ []).length = ps.length := by
    have e := r2.length
    rw [F.len _ _ _ _ hq] at e
    rw [List.append_nil]
    exact e.symm
  have bb := hb _ (Value.ref (s.heap.objs.size + 1) :: us) I2.kIn hl
  rw [List.append_nil] at bb
  refine wpAny_call (make_map (f := f) I.kIn M.makes M.init (beq_iff_eq.mp M.fn) (codeAny_mono (F.run _ X.stack _ _ ⟨Value.ref (s.heap.objs.size + 1) :: us, []⟩ (Value.ref (s.heap.objs.size + 1) :: us) _ _ _ (hr.make C us []) hgd
    (I2.env0.make C us []) bb r2 hq) fun r s' hq' => ?_))
  match r, hq' with
  | .error e, hq' => exact passAt tk σ pins _ _ e s' I2 hq'
  | .ok (.ret u), hq' =>
    obtain ⟨v, H', I3, rv, ev, q3⟩ := I2.after hq'
    subst ev
    exact ⟨rv, ⟨V.ref (s.heap.objs.size + 1), H', I3, rfl, q3⟩⟩
  | .ok .next, hq' => exact hq'.elim
  | .ok .brk, hq' => exact hq'.elim
  | .ok .cont, hq' => exact hq'.elim
theorem Post.len {α : Type} (r : R α) : True := trivial
theorem newR_notBad {n : Nat} {r : R Ev.W} (h : newR n r ≠ .bad) : r ≠ .bad := fun z => h (by rw [z]; rfl)
theorem PX.notBad {α β : Type} {K : PySem.W.Frag} {EX : EXT} {Hd : Hp} {io : List Addr} {H : Hp} {Rel : Hp → List Addr → α → β → Prop} {Q : β → Hp → Prop} {r : R α} (h : PX K EX Hd io H Rel Q r) : r ≠ .bad := fun z => by rw [z] at h; exact h
/-- what is wanted of an __init__ -/
theorem new_want {K : PySem.W.Frag} {c : Str} {n : Nat} {F : List Ev.W → Store → R Ev.W} {σ : L2.St} {Hd H : Hp} {io : List Addr} {st : Store} {ws : List Ev.W} {vs : List V} {Q : VK} {x dx : Addr} (l : Rl K Hd io st H) (r : RelWs K Hd io ws vs) (hn : ∀ ws st, F ws st ≠ .bad → ws.length = n)
    (q : PX K (eX S Wx σ) Hd io H (RelW K) Q (newR st.length (F (.cell st.length :: ws) (st ++ [.obj c []])))) (hx : H x = none) (hd : H dx = none) (ne : dx ≠ x) :
    spS S K n F (.ref x :: vs) (upd (upd H dx (.own x)) x (.ins (He.ga K c) dx [])) (fun v H2 => v = .non ∧ Q (.ref x) H2) fun cls d H2 => Wx cls d σ H2 := by
  obtain ⟨l2, e2⟩ := l.newO c hx hd ne
  have rc : RelW K Hd (io ++ [x]) (.cell st.length) (.ref x) := ⟨x, rfl, by rw [← l.len]; simp⟩
  have rw2 : RelWs K Hd (io ++ [x]) (.cell st.length :: ws) (.ref x :: vs) := .cons rc (r.mono e2)
  have hl := hn _ _ (newR_notBad (PX.notBad q))
  have q := PX.ext e2 q
  refine ⟨by have := rw2.length; omega, Hd, io ++ [x], st ++ [.obj c []], _, l2, rw2, ?_⟩
  unfold newR at q
  cases hr : F (.cell st.length :: ws) (st ++ [.obj c []]) with
  | bad => rw [hr] at q; exact q.elim
  | exc y st1 => rw [hr] at q; exact q
  | ok w st1 =>
    rw [hr, R.bind_ok] at q
    intro v Hd1 io1 H1 e1 l1 r1
    split at q
    · cases r1
      exact ⟨rfl, q _ _ _ _ e1 l1 (rc.mono e1)⟩
    · exact q.elim
theorem snd_new (y : Str) (es : Ms) (hs : AllSnd G N es) : Snd G N (.new y es) := by
  intro S Wx sc X e c h
  cases e <;> try (simp [chk] at h; done)
  rename_i f xs kw p
  cases f <;> try (simp [chk] at h; done)
  rename_i x px
  cases kw with
  | cons _ _ => simp [chk] at h
  | nil =>
    simp only [chk, Bool.and_eq_true, decide_eq_true_eq] at h
    obtain ⟨⟨rfl, hg⟩, h1⟩ := h
    obtain ⟨g1, g2⟩ := gl_of c hg
    refine snd_val ?_ (fun _ => rfl) (fun _ _ _ z => nomatch z)
    cases hm : G.ini x with
    | none =>
      refine PEimp (t := fun _ _ _ => False) ⟨fun _ _ _ _ _ _ h => h.elim⟩ fun σ H Q ⟨Hd, io, ro, st, l, rs, q⟩ => ?_
      simp only [ev, hm] at q
      exact q
    | some F =>
      obtain ⟨n, hn, k, fa, fd, ps, rfl, M, FF, hr, mg, hb⟩ := c.ini _ _ hm
      refine ⟨fun pins s σ H Q I ⟨Hd, io, ro, st, l, rs, q⟩ => ?_⟩
      simp only [ev, hm] at q
      refine wpAny_Call_Name_kw (ld_glob I g1 mg ?_ g2)
      have fin : ∀ (us : List Value) (s1 : Shared) (vs : List V) (H1 : Hp), Inv X pins σ H1 s1 → Vals vs us → (∃ Hd1 io1 st1 ws, Rl X.K Hd1 io1 st1 H1 ∧ RelWs X.K Hd1 io1 ws vs ∧ PX X.K (eX S Wx σ) Hd1 io1 H1 (RelW X.K) Q (newR st1.length (F (.cell st1.length :: ws) (st1 ++ [.obj x []])))) →
          wpAny (model X.prog X.w) X.A (call (.ref (He.ga X.K x)) us) (EP X pins σ Q) X.xe s1 := fun us s1 vs H1 I1 r1 ⟨Hd1, io1, st1, ws, l1, w1, q1⟩ =>
        run_makeG M FF hr c.gd hb c.tk I1 r1 fun x' dx hx hd ne => new_want l1 w1 hn q1 hx hd ne
      cases xs with
      | nil =>
        cases es with
        | cons _ _ => simp [chks] at h1
        | nil =>
          simp only [evs, R.bind_ok] at q
          exact PySem.W.callWith_K0 I.kIn M.kp (fin [] s [] H I .nil ⟨Hd, io, st, [], l, .nil, q⟩)
      | cons a r =>
        have st' := chks_stars h1
        have st2 := st'
        simp only [noStars, Bool.and_eq_true] at st2
        have A := snds hs S Wx sc X _ c h1
        refine PySem.W.callWith_K (h₀ := X.base) I.ok.mod.kin M.kp (thn (A.run _ pins s σ H _ I (tMs.go l rs q fun vs H1 Hd1 io1 ws st1 e1 l1 rs1 r1 q => ⟨Hd1, io1, st1, ws, l1, r1, q⟩)) fun us s1 ⟨vs, H1, I1, r1, q1⟩ => ⟨I1.kIn, fin us s1 vs H1 I1 r1 q1⟩) (star_plain st2.1) (star_none st2.2)
theorem methF_ok {m : Str} {st : Store} {w : Ev.W} {n : Nat} {F : List Ev.W → Store → R Ev.W} (h : methF G m st w = some (n, F)) : ∃ c fs, w = .cell n ∧ st[n]? = some (.obj c fs) ∧ look1 fs m = none ∧ G.meth c m = some F := by
  unfold methF at h
  split at h
  · split at h
    · split at h
      · rename_i h1 _ h2
        cases hg : G.meth _ m with
        | none => rw [hg] at h; cases h
        | some F' => rw [hg] at h; cases h; exact ⟨_, _, rfl, h1, h2, hg⟩
      · cases h
    · cases h
  · cases h
theorem snd_meth (o : M) (m : Str) (es : Ms) (ho : Snd G N o) (hs : AllSnd G N es) : Snd G N (.meth o m es) := by
  intro S Wx sc X e c h
  cases e <;> try (simp [chk] at h; done)
  rename_i f xs kw p
  cases f <;> try (simp [chk] at h; done)
  rename_i x nm ap
  cases kw with
  | cons _ _ => simp [chk] at h
  | nil =>
    simp only [chk, Bool.and_eq_true, decide_eq_true_eq] at h
    obtain ⟨⟨⟨⟨⟨rfl, hl⟩, hb⟩, h20⟩, h1⟩, h2⟩ := h
    refine snd_val ?_ (fun _ => rfl) (fun _ _ _ z => nomatch z)
    have st' := chks_stars h2
    refine ⟨fun pins s σ H Q I ⟨Hd, io, ro, st, l, rs, q⟩ => ?_⟩
    simp only [ev] at q
    refine call_attr (base_of hb) ?_ hl (thn ((ho S Wx sc X _ c h1).1.run pins s σ H _ I (tM.go (Q1 := fun x H1 => ∃ Hd1 io1 st1 n F, RelW X.K Hd1 io1 (.cell n) x ∧ Rl X.K Hd1 io1 st1 H1 ∧ RelS X.K Hd1 io1 ro σ ∧ methF G nm st1 (.cell n) = some (n, F) ∧ PX X.K (eX S Wx σ) Hd1 io1 H1 (RelW X.K) Q ((evs G es ro st1).bind fun ws st2 => F (.cell n :: ws) st2)) l rs q
      fun v H1 Hd1 io1 w st1 e1 l1 rs1 r1 q => ?_)) fun u s1 ⟨x', H1, I1, rx, Hd1, io1, st1, n, F, rw1, l1, rs1, hm, q1⟩ pl => ?_)
    · rw [starAll st']
      simp only [Bool.true_and]
      show (true && decide (xs.length + 0 + 0 < 30)) = true
      rw [Bool.true_and]
      exact decide_eq_true (by omega)
    · cases hm : methF G nm st1 w with
      | none => rw [hm] at q; exact q.elim
      | some nF =>
        obtain ⟨n, F⟩ := nF
        rw [hm] at q
        obtain ⟨cc, fs, rfl, _⟩ := methF_ok hm
        exact ⟨Hd1, io1, st1, n, F, r1, l1, rs1, hm, q⟩
    · obtain ⟨cc, fs, _, k1, k2, k3⟩ := methF_ok hm
      obtain ⟨nn, hn, k, fa, fd, ps, rfl, C, Mt, FF, hr, hbd⟩ := c.meth _ _ _ k3
      obtain ⟨a, rfl, ha⟩ := id rw1
      obtain ⟨_, dx, vs0, hins, _, _, _, rfs⟩ := l1.cel n a _ ha k1
      obtain rfl : u = Value.ref a := rx
      refine getmeth_ok I1 hins C Mt (rfs.look_none k2) ?_
      have fin : ∀ (us : List Value) (s2 : Shared) (vs : List V) (H2 : Hp), Inv X pins σ H2 s2 → Vals vs us → (∃ Hd2 io2 st2 ws, Rl X.K Hd2 io2 st2 H2 ∧ RelW X.K Hd2 io2 (.cell n) (.ref a) ∧ RelWs X.K Hd2 io2 ws vs ∧ PX X.K (eX S Wx σ) Hd2 io2 H2 (RelW X.K) Q (F (.cell n :: ws) st2)) →
          wpAny (model X.prog X.w) X.A (call (.ref fa) (.ref a :: us)) (EP X pins σ Q) X.xe s2 := fun us s2 vs H2 I2 r2 ⟨Hd2, io2, st2, ws, l2, c2, w2, q2⟩ => by
        refine run_fnG (ds := []) (dvs := []) (vs := .ref a :: vs) FF hr c.gd hbd .nil c.tk I2 (.cons rfl r2) ?_
        have rr : RelWs X.K Hd2 io2 (.cell n :: ws) (.ref a :: vs) := .cons c2 w2
        have e0 : (V.ref a :: vs) ++ [] = .ref a :: vs := List.append_nil _
        rw [e0]
        exact ⟨by have := rr.length; have := hn _ _ (PX.notBad q2); omega, Hd2, io2, st2, _, l2, rr, q2⟩
      cases xs with
      | nil =>
        cases es with
        | cons _ _ => simp [chks] at h2
        | nil =>
          simp only [evs, R.bind_ok] at q1
          exact PySem.W.callWith_K0 (first := [.ref a]) I1.kIn Mt.kp (fin [] s1 [] H1 I1 .nil ⟨Hd1, io1, st1, [], l1, rw1, .nil, q1⟩)
      | cons b r =>
        have st2 := st'
        simp only [noStars, Bool.and_eq_true] at st2
        have A := snds hs S Wx sc X _ c h2
        refine PySem.W.callWith_K (first := [.ref a]) (h₀ := X.base) I1.ok.mod.kin Mt.kp (thn (A.run _ pins s1 σ H1 _ I1 (tMs.go l1 rs1 q1 fun vs H2 Hd2 io2 ws st2 e2 l2 rs2 r2 q => ⟨Hd2, io2, st2, ws, l2, rw1.mono e2, r2, q⟩)) fun us s2 ⟨vs, H2, I2, r2, q2⟩ => ⟨I2.kIn, fin us s2 vs H2 I2 r2 q2⟩) (star_plain st2.1) (star_none st2.2)
end Ev
set_option Elab.async false
set_option linter.all false
set_option maxRecDepth 100000
set_option maxHeartbeats 1000000
namespace Ev
open PySem PySem.Spec PyProof.Rows L2
variable {G : Gt} {N : List Str} {S : IsX} {Wx : WX} {sc : Scope} {X : Cx}
/-! ### targets -/
def Off (ix : List Nat) (σ σ' : L2.St) : Prop := σ'.length = σ.length ∧ ∀ i, i ∉ ix → σ'[i]? = σ[i]?
theorem Off.refl {ix : List Nat} {σ : L2.St} : Off ix σ σ := ⟨rfl, fun _ _ => rfl⟩
theorem Off.trans {a b : List Nat} {σ σ1 σ2 : L2.St} (h : Off a σ σ1) (k : Off b σ1 σ2) : Off (a ++ b) σ σ2 :=
  ⟨k.1.trans h.1, fun i hi => (k.2 i fun z => hi (List.mem_append_right _ z)).trans (h.2 i fun z => hi (List.mem_append_left _ z))⟩
theorem Off.mono {a b : List Nat} {σ σ1 : L2.St} (h : Off a σ σ1) (k : ∀ i ∈ a, i ∈ b) : Off b σ σ1 := ⟨h.1, fun i hi => h.2 i fun z => hi (k i z)⟩
def gT (K : PySem.W.Frag) (t : T) : TG := fun v σ H Q => ∃ Hd io ro d ro', Le Hd H ∧ RelD K Hd v d ∧ RelS K Hd io ro σ ∧ asgT t d ro = some ro' ∧ ∀ σ', RelS K Hd io ro' σ' → Off (tIdx t) σ σ' → Q σ' H
def gTs (K : PySem.W.Frag) (t : T) : TGs := fun vs σ H Q => ∃ Hd io ro ds ro', Le Hd H ∧ RelDs K Hd vs ds ∧ RelS K Hd io ro σ ∧ asgTs t ds ro = some ro' ∧ ∀ σ', RelS K Hd io ro' σ' → Off (tIdx t) σ σ' → Q σ' H
theorem PGimp {e : Expr} {t t' : TG} (h : PG X e t) (k : ∀ v σ H Q, t' v σ H Q → t v σ H Q) : PG X e t' := ⟨fun pins s σ H v u Q I r q => h.run pins s σ H v u Q I r (k v σ H Q q)⟩
theorem PGsimp {e : List Expr} {t t' : TGs} (h : PGs X e t) (k : ∀ v σ H Q, t' v σ H Q → t v σ H Q) : PGs X e t' := ⟨fun pins s σ H v u Q I r q => h.run pins s σ H v u Q I r (k v σ H Q q)⟩
theorem asg_star {e : Expr} {es : List Expr} {env : Env} (h : noStar e = true) : assignEach (e :: es) env = (false, assign e env) :: assignEach es env := by
  cases e <;> first | rfl | (cases h; done)
theorem asg_plain {env : Env} : ∀ {es : List Expr}, noStars es = true → (assignEach es env).length = es.length ∧ (assignEach es env).findIdx? (·.1) = none
  | [], _ => ⟨rfl, rfl⟩
  | e :: es, h => by
    simp only [noStars, Bool.and_eq_true] at h
    obtain ⟨h1, h2⟩ := asg_plain (env := env) h.2
    rw [asg_star h.1]
    exact ⟨by simp [h1], by simp [List.findIdx?_cons, h2]⟩
theorem chkTs_stars {og sc : Scope} : ∀ {es : List Expr} {t : T}, chkTs N og sc t es = true → noStars es = true
  | [], _, _ => rfl
  | e :: es, .nm _, h => by simp [chkTs] at h
  | e :: es, .nil, h => by simp [chkTs] at h
  | e :: es, .cons t r, h => by
    simp only [chkTs, Bool.and_eq_true] at h
    simp only [noStars, Bool.and_eq_true]
    exact ⟨h.1.1, chkTs_stars h.2⟩
def tLen : T → Nat
  | .nm _ => 0
  | .nil => 0
  | .cons _ r => tLen r + 1
theorem chkTs_len {og sc : Scope} : ∀ {es : List Expr} {t : T}, chkTs N og sc t es = true → tLen t = es.length
  | [], .nm _, h => by simp [chkTs] at h
  | [], .cons _ _, h => by simp [chkTs] at h
  | [], .nil, _ => rfl
  | e :: es, .nm _, h => by simp [chkTs] at h
  | e :: es, .nil, h => by simp [chkTs] at h
  | e :: es, .cons t r, h => by
    simp only [chkTs, Bool.and_eq_true] at h
    simp [tLen, chkTs_len h.2]
theorem asgTs_len : ∀ {t : T} {ds : List D} {ro ro' : Ro}, asgTs t ds ro = some ro' → ds.length = tLen t
  | .nm _, _, _, _, h => by simp [asgTs] at h
  | .nil, [], _, _, _ => rfl
  | .nil, _ :: _, _, _, h => by simp [asgTs] at h
  | .cons t r, [], _, _, h => by simp [asgTs] at h
  | .cons t r, d :: ds, ro, ro', h => by
    simp only [asgTs] at h
    cases h1 : asgT t d ro with
    | none => rw [h1] at h; cases h
    | some ro1 => rw [h1] at h; simp [tLen, asgTs_len h]
/-- a tuple's target is its parts' -/
theorem asgT_tup {t : T} (ht : ∀ i, t ≠ .nm i) {d : D} {ro ro' : Ro} (h : asgT t d ro = some ro') : ∃ ds, d = .tup ds ∧ asgTs t ds ro = some ro' := by
  cases t with
  | nm i => exact absurd rfl (ht i)
  | nil => cases d <;> first | (simp [asgT] at h; done) | skip
           rename_i ds
           cases ds <;> first | (simp [asgT] at h; done) | skip
           exact ⟨[], rfl, by simpa [asgT, asgTs] using h⟩
  | cons t r => cases d <;> first | (simp [asgT] at h; done) | skip
                rename_i ds
                cases ds <;> first | (simp [asgT] at h; done) | skip
                rename_i d ds
                exact ⟨d :: ds, rfl, by simpa [asgT, asgTs] using h⟩
section
variable (hN : X.N = N) (nd : N.Nodup) (calm : X.calm = true) {og : Scope} (hsc : X.env.scope = sc) (hfn : ∀ x, og.names.lookup x = some .cell → X.fn x = true)
include hN nd calm hsc hfn
theorem loc_of2 {x : Str} (h : locB sc x = true) : L2.Loc X.env.scope x := by
  rw [hsc]
  unfold locB at h
  unfold L2.Loc
  split at h <;> simp_all
mutual
theorem pg_ok : ∀ (t : T) (e : Expr), chkT N og sc t e = true → PG X e (gT X.K t)
  | .nm i, e, h => by
    cases e <;> try (simp [chkT] at h; done)
    rename_i x p
    simp only [chkT, Bool.and_eq_true, decide_eq_true_eq, Bool.or_eq_true] at h
    refine PGimp (pg_name (i := i) (by rw [hN]; exact nd) (by rw [hN]; exact h.1.1) (loc_of2 hN nd calm hsc hfn h.1.2) ?_) fun v σ H Q ⟨Hd, io, ro, d, ro', le, r, rs, ha, q⟩ => ?_
    · rcases h.2 with z | z
      · right; rw [hsc]; exact z
      · exact .inl (hfn x z)
    · simp only [asgT] at ha
      split at ha
      · cases ha
        exact q _ (rs.set i (w := .d d) r) ⟨by simp, fun j hj => by
          simp only [tIdx, List.mem_singleton] at hj
          rw [List.getElem?_set_ne (fun z => hj z.symm)]⟩
      · cases ha
  | .nil, e, h => by
    cases e <;> try (simp [chkT] at h; done)
    rename_i es k p
    cases es with
    | cons _ _ => simp [chkT] at h
    | nil =>
      refine PGimp (pg_tup (n := 0) (t := gTs X.K .nil) calm (pgs_ok .nil [] rfl)) fun v σ H Q ⟨Hd, io, ro, d, ro', le, r, rs, ha, q⟩ => ?_
      obtain ⟨ds, rfl, ha2⟩ := asgT_tup (fun _ z => by cases z) ha
      cases r with
      | tup hs hr => exact ⟨_, _, rfl, le.sqt hs, by rw [hr.length, asgTs_len ha2]; rfl, Hd, io, ro, ds, ro', le, hr, rs, ha2, q⟩
  | .cons t r, e, h => by
    cases e <;> try (simp [chkT] at h; done)
    rename_i es k p
    cases es with
    | nil => simp [chkT] at h
    | cons e es =>
      have h' : chkTs N og sc (.cons t r) (e :: es) = true := by simpa only [chkT, chkTs] using h
      have st := asg_plain (env := X.env) (chkTs_stars h')
      have ih := pgs_ok (.cons t r) (e :: es) h'
      refine PGimp (pg_tup (n := (e :: es).length) calm ih st.1 st.2) fun v σ H Q ⟨Hd, io, ro, d, ro', le, r, rs, ha, q⟩ => ?_
      obtain ⟨ds, rfl, ha2⟩ := asgT_tup (fun _ z => by cases z) ha
      cases r with
      | tup hs hr => exact ⟨_, _, rfl, le.sqt hs, by rw [hr.length, asgTs_len ha2, chkTs_len h'], Hd, io, ro, ds, ro', le, hr, rs, ha2, q⟩
theorem pgs_ok : ∀ (t : T) (es : List Expr), chkTs N og sc t es = true → PGs X es (gTs X.K t)
  | .nm i, es, h => by simp [chkTs] at h
  | .nil, es, h => by
    cases es with
    | cons _ _ => simp [chkTs] at h
    | nil =>
      refine PGsimp pgs_nil fun v σ H Q ⟨Hd, io, ro, ds, ro', le, r, rs, ha, q⟩ => ?_
      cases ds with
      | cons _ _ => simp [asgTs] at ha
      | nil =>
        simp only [asgTs, Option.some.injEq] at ha
        subst ha
        cases r
        exact ⟨rfl, q σ rs Off.refl⟩
  | .cons t r, es, h => by
    cases es with
    | nil => simp [chkTs] at h
    | cons e es =>
      simp only [chkTs, Bool.and_eq_true] at h
      refine PGsimp (pgs_cons (pg_ok t e h.1.2) (pgs_ok r es h.2) (by rw [asg_star h.1.1]; rfl)) fun v σ H Q ⟨Hd, io, ro, ds, ro', le, rr, rs, ha, q⟩ => ?_
      cases ds with
      | nil => simp [asgTs] at ha
      | cons d ds =>
        simp only [asgTs] at ha
        cases h1 : asgT t d ro with
        | none => rw [h1] at ha; cases ha
        | some ro1 =>
          rw [h1] at ha
          cases rr with
          | cons h2 h3 =>
            refine ⟨_, _, rfl, Hd, io, ro, d, ro1, le, h2, rs, h1, fun σ1 rs1 o1 => ?_⟩
            exact ⟨Hd, io, ro1, ds, ro', le, h3, rs1, ha, fun σ2 rs2 o2 => q σ2 rs2 (Off.trans o1 o2)⟩
end
end
/-! ### what is walked over -/
structure Yld (K : PySem.W.Frag) (Hd : Hp) (J : It) (ds : List D) : Prop where
  go : ∀ i H', Le Hd H' → i < ds.length → J.go i H'
  stop : ∀ i H', Le Hd H' → ds.length ≤ i → J.stop i H'
  yld : ∀ i H' x H'', Le Hd H' → i < ds.length → J.yld i H' x H'' → ∃ d, ds[i]? = some d ∧ ((H'' = H' ∧ RelD K Hd x d) ∨ ∃ T vs es, x = .ref T ∧ H' T = none ∧ H'' = upd H' T (.tup vs) ∧ d = .tup es ∧ RelDs K Hd vs es)
def RelJ (K : PySem.W.Frag) (Hd : Hp) (_ : List Addr) (ds : List D) (J : It) : Prop := Yld K Hd J ds
theorem RelDs.at_ {K : PySem.W.Frag} {Hd : Hp} {vs : List V} {ds : List D} (r : RelDs K Hd vs ds) {i : Nat} (h : i < ds.length) : ∃ v d, vs[i]? = some v ∧ ds[i]? = some d ∧ RelD K Hd v d := by
  have hd : ds[i]? = some ds[i] := List.getElem?_eq_getElem h
  obtain ⟨v, h1, h2⟩ := r.get' hd
  exact ⟨v, _, h1, hd, h2⟩
theorem yld_list {K : PySem.W.Frag} {Hd : Hp} {a : Addr} {vs : List V} {ds : List D} (h : SqL K Hd a vs) (r : RelDs K Hd vs ds) : Yld K Hd (Itl K a) ds where
  go i H' le hi := by
    obtain ⟨v, d, h1, h2, h3⟩ := r.at_ hi
    exact ⟨vs, v, le.sql h, h1⟩
  stop i H' le hi := ⟨vs, le.sql h, by rw [r.length]; exact hi⟩
  yld i H' x H'' le hi y := by
    obtain ⟨v, d, h1, h2, h3⟩ := r.at_ hi
    obtain ⟨e, y⟩ := y
    have := y vs (le.sql h)
    rw [h1] at this
    cases this
    exact ⟨d, h2, .inl ⟨e, h3⟩⟩
theorem yld_tup {K : PySem.W.Frag} {Hd : Hp} {a : Addr} {vs : List V} {ds : List D} (h : SqT K Hd a vs) (r : RelDs K Hd vs ds) : Yld K Hd (Itt K a) ds where
  go i H' le hi := by
    obtain ⟨v, d, h1, h2, h3⟩ := r.at_ hi
    exact ⟨vs, v, le.sqt h, h1⟩
  stop i H' le hi := ⟨vs, le.sqt h, by rw [r.length]; exact hi⟩
  yld i H' x H'' le hi y := by
    obtain ⟨v, d, h1, h2, h3⟩ := r.at_ hi
    obtain ⟨e, y⟩ := y
    have := y vs (le.sqt h)
    rw [h1] at this
    cases this
    exact ⟨d, h2, .inl ⟨e, h3⟩⟩
theorem yld_str {K : PySem.W.Frag} {Hd : Hp} {z : Str} : Yld K Hd (Its z) (z.cps.toList.map fun c => .str ⟨#[c]⟩) where
  go i H' le hi := show i < z.cps.size by simpa using hi
  stop i H' le hi := show z.cps.size ≤ i by simpa using hi
  yld i H' x H'' le hi y := by
    obtain ⟨e, c, hc, rfl⟩ := y
    refine ⟨.str ⟨#[c]⟩, ?_, .inl ⟨e, .str _⟩⟩
    rw [List.getElem?_map, Array.getElem?_toList, hc]
    rfl
theorem intsFrom_get : ∀ (n : Nat) (lo : Int) (i : Nat), i < n → (intsFrom lo n)[i]? = some (.int (lo + i))
  | 0, _, _, h => by omega
  | n + 1, lo, 0, _ => by simp [intsFrom]
  | n + 1, lo, i + 1, h => by
    simp only [intsFrom, List.getElem?_cons_succ]
    rw [intsFrom_get n (lo + 1) i (by omega)]
    congr 2
    push_cast
    omega
theorem intsFrom_len : ∀ (n : Nat) (lo : Int), (intsFrom lo n).length = n
  | 0, _ => rfl
  | n + 1, lo => by simp [intsFrom, intsFrom_len n (lo + 1)]
theorem yld_rng {K : PySem.W.Frag} {Hd : Hp} {lo : Int} {n : Nat} : Yld K Hd (Itr lo n) (intsFrom lo n) where
  go i H' le hi := by rw [intsFrom_len] at hi; exact hi
  stop i H' le hi := by rw [intsFrom_len] at hi; exact hi
  yld i H' x H'' le hi y := by
    obtain ⟨e, rfl⟩ := y
    rw [intsFrom_len] at hi
    exact ⟨_, intsFrom_get n lo i hi, .inl ⟨e, .int _⟩⟩
theorem enumFrom_get : ∀ (ds : List D) (k i : Nat) (d : D), ds[i]? = some d → (enumFrom k ds)[i]? = some (.tup [.int ((k + i : Nat) : Int), d])
  | [], _, _, _, h => by simp at h
  | x :: ds, k, 0, d, h => by simp at h; subst h; simp [enumFrom]
  | x :: ds, k, i + 1, d, h => by
    simp only [enumFrom, List.getElem?_cons_succ]
    rw [enumFrom_get ds (k + 1) i d (by simpa using h)]
    have : k + 1 + i = k + (i + 1) := by omega
    rw [this]
theorem enumFrom_len : ∀ (ds : List D) (k : Nat), (enumFrom k ds).length = ds.length
  | [], _ => rfl
  | x :: ds, k => by simp [enumFrom, enumFrom_len ds (k + 1)]
theorem yld_enmT {K : PySem.W.Frag} {Hd : Hp} {a : Addr} {vs : List V} {ds : List D} (h : SqT K Hd a vs) (r : RelDs K Hd vs ds) : Yld K Hd (IteT K a) (enumFrom 0 ds) where
  go i H' le hi := by
    rw [enumFrom_len] at hi
    obtain ⟨v, d, h1, h2, h3⟩ := r.at_ hi
    exact ⟨vs, v, le.sqt h, h1⟩
  stop i H' le hi := by
    rw [enumFrom_len] at hi
    exact ⟨vs, le.sqt h, by rw [r.length]; exact hi⟩
  yld i H' x H'' le hi y := by
    rw [enumFrom_len] at hi
    obtain ⟨v, d, h1, h2, h3⟩ := r.at_ hi
    obtain ⟨T, x, rfl, hT, e, y⟩ := y
    have := y vs (le.sqt h)
    rw [h1] at this
    cases this
    refine ⟨_, enumFrom_get ds 0 i d h2, .inr ⟨T, _, _, rfl, hT, e, rfl, ?_⟩⟩
    rw [Nat.zero_add]
    exact .cons (.int _) (.cons h3 .nil)
theorem yld_enm {K : PySem.W.Frag} {Hd : Hp} {a : Addr} {vs : List V} {ds : List D} (h : SqL K Hd a vs) (r : RelDs K Hd vs ds) : Yld K Hd (Ite K a) (enumFrom 0 ds) where
  go i H' le hi := by
    rw [enumFrom_len] at hi
    obtain ⟨v, d, h1, h2, h3⟩ := r.at_ hi
    exact ⟨vs, v, le.sql h, h1⟩
  stop i H' le hi := by
    rw [enumFrom_len] at hi
    exact ⟨vs, le.sql h, by rw [r.length]; exact hi⟩
  yld i H' x H'' le hi y := by
    rw [enumFrom_len] at hi
    obtain ⟨v, d, h1, h2, h3⟩ := r.at_ hi
    obtain ⟨T, x, rfl, hT, e, y⟩ := y
    have := y vs (le.sql h)
    rw [h1] at this
    cases this
    refine ⟨_, enumFrom_get ds 0 i d h2, .inr ⟨T, _, _, rfl, hT, e, rfl, ?_⟩⟩
    rw [Nat.zero_add]
    exact .cons (.int _) (.cons h3 .nil)
theorem zipD_get : ∀ (ds es : List D) (i : Nat) (d e : D), ds[i]? = some d → es[i]? = some e → (zipD ds es)[i]? = some (.tup [d, e])
  | [], _, _, _, _, h, _ => by simp at h
  | _ :: _, [], _, _, _, _, h => by simp at h
  | x :: ds, y :: es, 0, d, e, h, k => by simp at h k; subst h k; simp [zipD]
  | x :: ds, y :: es, i + 1, d, e, h, k => by
    simp only [zipD, List.getElem?_cons_succ]
    exact zipD_get ds es i d e (by simpa using h) (by simpa using k)
theorem zipD_len : ∀ (ds es : List D), (zipD ds es).length = min ds.length es.length
  | [], _ => by simp [zipD]
  | _ :: _, [] => by simp [zipD]
  | x :: ds, y :: es => by simp [zipD, zipD_len ds es]
theorem yld_zip {K : PySem.W.Frag} {Hd : Hp} {a b : Addr} {vs us : List V} {ds es : List D} (h : SqL K Hd a vs) (r : RelDs K Hd vs ds) (h' : SqL K Hd b us) (r' : RelDs K Hd us es) : Yld K Hd (Itz K a b) (zipD ds es) where
  go i H' le hi := by
    rw [zipD_len] at hi
    obtain ⟨v, d, h1, h2, h3⟩ := r.at_ (i := i) (by omega)
    obtain ⟨v', d', h1', h2', h3'⟩ := r'.at_ (i := i) (by omega)
    exact ⟨vs, us, v, v', le.sql h, le.sql h', h1, h1'⟩
  stop i H' le hi := by
    rw [zipD_len] at hi
    exact ⟨vs, us, le.sql h, le.sql h', by rw [r.length, r'.length]; omega⟩
  yld i H' x H'' le hi y := by
    rw [zipD_len] at hi
    obtain ⟨v, d, h1, h2, h3⟩ := r.at_ (i := i) (by omega)
    obtain ⟨v', d', h1', h2', h3'⟩ := r'.at_ (i := i) (by omega)
    obtain ⟨T, x, x', rfl, hT, e, y, y'⟩ := y
    have := y vs (le.sql h)
    rw [h1] at this
    cases this
    have := y' us (le.sql h')
    rw [h1'] at this
    cases this
    exact ⟨_, zipD_get ds es i d d' h2 h2', .inr ⟨T, _, _, rfl, hT, e, rfl, .cons h3 (.cons h3' .nil)⟩⟩
theorem yld_zipT {K : PySem.W.Frag} {Hd : Hp} {a b : Addr} {vs us : List V} {ds es : List D} (h : SqT K Hd a vs) (r : RelDs K Hd vs ds) (h' : SqT K Hd b us) (r' : RelDs K Hd us es) : Yld K Hd (RZ.ItzT K a b) (zipD ds es) where
  go i H' le hi := by
    rw [zipD_len] at hi
    obtain ⟨v, d, h1, h2, h3⟩ := r.at_ (i := i) (by omega)
    obtain ⟨v', d', h1', h2', h3'⟩ := r'.at_ (i := i) (by omega)
    exact ⟨vs, us, v, v', le.sqt h, le.sqt h', h1, h1'⟩
  stop i H' le hi := by
    rw [zipD_len] at hi
    exact ⟨vs, us, le.sqt h, le.sqt h', by rw [r.length, r'.length]; omega⟩
  yld i H' x H'' le hi y := by
    rw [zipD_len] at hi
    obtain ⟨v, d, h1, h2, h3⟩ := r.at_ (i := i) (by omega)
    obtain ⟨v', d', h1', h2', h3'⟩ := r'.at_ (i := i) (by omega)
    obtain ⟨T, x, x', rfl, hT, e, y, y'⟩ := y
    have := y vs (le.sqt h)
    rw [h1] at this
    cases this
    have := y' us (le.sqt h')
    rw [h1'] at this
    cases this
    exact ⟨_, zipD_get ds es i d d' h2 h2', .inr ⟨T, _, _, rfl, hT, e, rfl, .cons h3 (.cons h3' .nil)⟩⟩
def tI (S : IsX) (W : WX) (G : Gt) (K : PySem.W.Frag) (m : I) : TI := fun σ H R => ∃ Hd io ro st, Rl K Hd io st H ∧ RelS K Hd io ro σ ∧ PX K (eX S W σ) Hd io H (RelJ K) R (evi G m ro st)
def SndI (G : Gt) (N : List Str) (m : I) : Prop := ∀ (S : IsX) (Wx : WX) (sc : Scope) (X : Cx) (e tg : Expr), CtxOk G N S Wx sc X → chki N sc m e = true → (wantTup m = true → isTupE tg = true) → PI X tg e (tI S Wx G X.K m)
theorem PIimp {tg e : Expr} {t t' : TI} (h : PI X tg e t) (k : ∀ σ H R, t' σ H R → t σ H R) : PI X tg e t' := ⟨fun pins s σ H R I q => h.run pins s σ H R I (k σ H R q)⟩
theorem PI_or {tg e : Expr} {t t' : TI} (h : PI X tg e t) (h' : PI X tg e t') : PI X tg e fun σ H R => t σ H R ∨ t' σ H R := ⟨fun pins s σ H R I q => q.elim (h.run pins s σ H R I) (h'.run pins s σ H R I)⟩
theorem sndi_it (m : M) (hm : Snd G N m) : SndI G N (.it m) := by
  intro S Wx sc X e tg c h _
  simp only [chki] at h
  have E := (hm S Wx sc X _ c h).1
  refine PIimp (PI_or (pi_list E) (PI_or (pi_tup E) (pi_str E))) fun σ H Rr ⟨Hd, io, ro, st, l, rs, q⟩ => ?_
  simp only [evi] at q
  cases hr : ev G m ro st with
  | bad => rw [hr] at q; exact q.elim
  | exc x s => rw [hr] at q; exact .inl ⟨Hd, io, ro, st, l, rs, by rw [hr]; exact q⟩
  | ok w st1 =>
    rw [hr, R.bind_ok] at q
    cases hk : keepD st1 w with
    | bad => rw [hk] at q; exact q.elim
    | exc x s => exact (keepD_noexc hk).elim
    | ok d st2 =>
      rw [hk, R.bind_ok] at q
      have fin : ∀ (Q1 : VK), (∀ v H1 Hd2 io1, Ext Hd io H Hd2 io1 H1 → Rl X.K Hd2 io1 st2 H1 → RelD X.K Hd2 v d → Q1 v H1) → tM S Wx G X.K m σ H Q1 := fun Q1 k => ⟨Hd, io, ro, st, l, rs, by
        rw [hr]
        intro v Hd1 io1 H1 e1 l1 r1
        obtain ⟨Hd2, e2, l2, r2⟩ := keepD_ok l1 r1 hk
        exact k v H1 Hd2 io1 (e1.trans e2) l2 r2⟩
      cases d with
      | non => exact q.elim
      | bl b => exact q.elim
      | int i => exact q.elim
      | dic ks xs => exact q.elim
      | exv _ _ _ => exact q.elim
      | lst ds =>
        refine .inl (fin _ fun v H1 Hd2 io1 e1 l2 r2 => ?_)
        cases r2 with
        | lst hs hr => exact ⟨_, rfl, ⟨_, l2.sub.sql (lq hs)⟩, q _ _ _ _ e1 l2 (yld_list (lq hs) hr)⟩
      | scr ns =>
        refine .inl (fin _ fun v H1 Hd2 io1 e1 l2 r2 => ?_)
        cases r2 with
        | scr hs => exact ⟨_, rfl, ⟨_, l2.sub.sql hs⟩, q _ _ _ _ e1 l2 (yld_list hs (RelDs.ints ns))⟩
      | tup ds =>
        refine .inr (.inl (fin _ fun v H1 Hd2 io1 e1 l2 r2 => ?_))
        cases r2 with
        | tup hs hr => exact ⟨_, rfl, ⟨_, l2.sub.sqt hs⟩, q _ _ _ _ e1 l2 (yld_tup hs hr)⟩
      | str z =>
        refine .inr (.inr (fin _ fun v H1 Hd2 io1 e1 l2 r2 => ?_))
        simp only [itemsOf] at q
        split at q
        · cases r2
          exact ⟨z, rfl, q _ _ _ _ e1 l2 yld_str⟩
        · exact q.elim
theorem sndi_rng1 (m : M) (hm : Snd G N m) : SndI G N (.rng1 m) := by
  intro S Wx sc X e tg c h _
  cases e <;> try (simp [chki] at h; done)
  rename_i f xs kw p
  cases f <;> try (simp [chki] at h; done)
  match xs, kw, h with
  | [e], [], h =>
    simp only [chki, Bool.and_eq_true, decide_eq_true_eq] at h
    obtain ⟨⟨⟨rfl, hg⟩, h1⟩, h2⟩ := h
    obtain ⟨g1, g2⟩ := gl_of c hg
    refine PIimp (pi_range1 g1 (c.blt _ (by decide)) (pa_cons (hm S Wx sc X _ c h2).1 pa_nil (star_plain h1)) (star_plain h1)) fun σ H Rr ⟨Hd, io, ro, st, l, rs, q⟩ => ?_
    simp only [evi] at q
    refine ⟨Hd, io, ro, st, l, rs, PX.bind q fun v H1 Hd1 io1 w st1 e1 l1 r1 q => ?_⟩
    split at q
    · rename_i j hp
      split at q
      · rename_i hb
        have := PkD.int (peek_ok l1 r1 hp)
        subst this
        exact ⟨j, rfl, hb.1, by omega, PX.here q l1 yld_rng⟩
      · exact q.elim
    · exact q.elim
theorem sndi_rng2 (a b : M) (ha : Snd G N a) (hb : Snd G N b) : SndI G N (.rng2 a b) := by
  intro S Wx sc X e tg c h _
  cases e <;> try (simp [chki] at h; done)
  rename_i f xs kw p
  cases f <;> try (simp [chki] at h; done)
  match xs, kw, h with
  | [e, f], [], h =>
    simp only [chki, Bool.and_eq_true, decide_eq_true_eq] at h
    obtain ⟨⟨⟨⟨⟨rfl, hg⟩, h1⟩, h2⟩, h3⟩, h4⟩ := h
    obtain ⟨g1, g2⟩ := gl_of c hg
    have s2 := star_plain (env := X.env) (es := []) h2
    have s1 := star_plain (env := X.env) (es := [f]) h1
    refine PIimp (pi_range2 g1 (c.blt _ (by decide)) (pa_cons (ha S Wx sc X _ c h3).1 (pa_cons (hb S Wx sc X _ c h4).1 pa_nil s2) s1) (by rw [s1, s2]; rfl) s2) fun σ H Rr ⟨Hd, io, ro, st, l, rs, q⟩ => ?_
    simp only [evi] at q
    refine ⟨Hd, io, ro, st, l, rs, PX.bind q fun v H1 Hd1 io1 w st1 e1 l1 r1 q => ?_⟩
    refine ⟨Hd1, io1, ro, st1, l1, rs.mono e1, PX.bind q fun u H2 Hd2 io2 w2 st2 e2 l2 r2 q => ?_⟩
    split at q
    · rename_i i j hp hp2
      split at q
      · rename_i hb
        have := PkD.int (peek_ok l2 (r1.mono e2) hp)
        subst this
        have := PkD.int (peek_ok l2 r2 hp2)
        subst this
        exact ⟨i, j, rfl, by omega, PX.here q l2 yld_rng⟩
      · exact q.elim
    · exact q.elim
theorem sndi_enm (m : M) (hm : Snd G N m) : SndI G N (.enm m) := by
  intro S Wx sc X e tg c h ht
  cases e <;> try (simp [chki] at h; done)
  rename_i f xs kw p
  cases f <;> try (simp [chki] at h; done)
  cases tg <;> try (cases ht rfl; done)
  match xs, kw, h with
  | [e], [], h =>
    simp only [chki, Bool.and_eq_true, decide_eq_true_eq] at h
    obtain ⟨⟨⟨rfl, hg⟩, h1⟩, h2⟩ := h
    obtain ⟨g1, g2⟩ := gl_of c hg
    refine PIimp (pi_enumA g1 (c.blt _ (by decide)) (pa_cons (hm S Wx sc X _ c h2).1 pa_nil (star_plain h1)) (star_plain h1)) fun σ H Rr ⟨Hd, io, ro, st, l, rs, q⟩ => ?_
    simp only [evi] at q
    refine ⟨Hd, io, ro, st, l, rs, PX.bind q fun v H1 Hd1 io1 w st1 e1 l1 r1 q => ?_⟩
    obtain ⟨d, Hd2, st2, e2, l2, r2, q⟩ := keepD_bind l1 r1 q
    cases d <;> try (exact q.elim)
    · cases r2 with
      | lst hs hr => exact ⟨_, _, rfl, .inl ⟨l2.sub.sql (lq hs), PX.here q l2 (yld_enm (lq hs) hr)⟩⟩
    · cases r2 with
      | tup hs hr => exact ⟨_, _, rfl, .inr ⟨l2.sub.sqt hs, PX.here q l2 (yld_enmT hs hr)⟩⟩
theorem sndi_zip (a b : M) (ha : Snd G N a) (hb : Snd G N b) : SndI G N (.zip a b) := by
  intro S Wx sc X e tg c h ht
  cases e <;> try (simp [chki] at h; done)
  rename_i f xs kw p
  cases f <;> try (simp [chki] at h; done)
  cases tg <;> try (cases ht rfl; done)
  match xs, kw, h with
  | [e, f], [], h =>
    simp only [chki, Bool.and_eq_true, decide_eq_true_eq] at h
    obtain ⟨⟨⟨⟨⟨rfl, hg⟩, h1⟩, h2⟩, h3⟩, h4⟩ := h
    obtain ⟨g1, g2⟩ := gl_of c hg
    have s2 := star_plain (env := X.env) (es := []) h2
    have s1 := star_plain (env := X.env) (es := [f]) h1
    refine PIimp (RZ.pi_zipA g1 (c.blt _ (by decide)) (pa_cons (ha S Wx sc X _ c h3).1 (pa_cons (hb S Wx sc X _ c h4).1 pa_nil s2) s1) s1 (star_none (es := [f]) (by simp [noStars, h2]))) fun σ H Rr ⟨Hd, io, ro, st, l, rs, q⟩ => ?_
    simp only [evi] at q
    refine ⟨Hd, io, ro, st, l, rs, PX.bind q fun v H1 Hd1 io1 w st1 e1 l1 r1 q => ?_⟩
    refine ⟨Hd1, io1, ro, st1, l1, rs.mono e1, PX.bind q fun u H2 Hd2 io2 w2 st2 e2 l2 r2 q => ?_⟩
    obtain ⟨d, Hd3, st3, e3, l3, r3, q⟩ := keepD_bind l2 (r1.mono e2) q
    obtain ⟨d', Hd4, st4, e4, l4, r4, q⟩ := keepD_bind l3 (r2.mono e3) q
    have r3 := RelD.mono e4.hd r3
    cases d <;> cases d' <;> try (exact q.elim)
    · cases r3 with
      | lst hs hr =>
        cases r4 with
        | lst hs' hr' => exact ⟨_, _, _, _, rfl, .inl ⟨l4.sub.sql (lq hs), l4.sub.sql (lq hs'), PX.here q l4 (yld_zip (lq hs) hr (lq hs') hr')⟩⟩
    · cases r3 with
      | tup hs hr =>
        cases r4 with
        | tup hs' hr' => exact ⟨_, _, _, _, rfl, .inr ⟨l4.sub.sqt hs, l4.sub.sqt hs', PX.here q l4 (yld_zipT hs hr hs' hr')⟩⟩
end Ev
set_option Elab.async false
set_option linter.all false
set_option maxRecDepth 100000
set_option maxHeartbeats 1000000
namespace Ev
open PySem PySem.Spec PyProof.Rows L2
variable {G : Gt} {N : List Str} {S : IsX} {Wx : WX} {sc : Scope} {X : Cx}
theorem wipe_in {σ : L2.St} {i : Nat} : ∀ {vs : List Nat}, i ∈ vs → (L2.wipe σ vs)[i]? = if i < σ.length then some none else none
  | [], h => by cases h
  | v :: vs, h => by
    unfold L2.wipe
    by_cases e : v = i
    · subst e
      by_cases hl : v < σ.length
      · rw [List.getElem?_set_self (by rw [wipe_length]; exact hl), if_pos hl]
      · rw [if_neg hl]
        exact List.getElem?_eq_none (by rw [List.length_set, wipe_length]; omega)
    · rw [List.getElem?_set_ne e]
      exact wipe_in (by rcases List.mem_cons.mp h with z | z; exact absurd z.symm e; exact z)
theorem wipe_off {vs : List Nat} {σ σ' : L2.St} (h : Off vs (L2.wipe σ vs) σ') : L2.wipe σ' vs = L2.wipe σ vs := by
  have hl : σ'.length = σ.length := by rw [h.1, wipe_length]
  refine List.ext_getElem? fun i => ?_
  by_cases hi : i ∈ vs
  · rw [wipe_in hi, wipe_in hi, hl]
  · rw [wipe_out hi, h.2 i hi]
/-! ### the hidden list -/
section
variable {K : PySem.W.Frag} {Hd H Hd0 H0 : Hp} {io io0 : List Addr} {st : Store} {p : Addr} {o : HO}
theorem Rl.poke (l : Rl K Hd io st H) (hd : Hd p = none) (hn : p ∉ io) (hno : ∀ x, H p ≠ some (.own x)) : Rl K Hd io st (upd H p o) := by
  have np : ∀ a ∈ io, a ≠ p := fun a ha z => hn (by rw [← z]; exact ha)
  refine ⟨fun a u q => ?_, l.nd, l.len, fun n a c h1 h2 => ?_, fun a ha => by rw [upd_ne (np a ha)]; exact l.liv a ha⟩
  · rw [upd_ne (fun z => by rw [z, hd] at q; cases q)]; exact l.sub _ _ q
  · have hc := l.cel n a c h1 h2
    have na := np a (List.mem_of_getElem? h1)
    cases c with
    | lst ds => obtain ⟨h3, vs, h4, h5⟩ := hc; exact ⟨h3, vs, by rw [upd_ne na]; exact h4, h5⟩
    | dic kvs => obtain ⟨h3, vs, h4, h5⟩ := hc; exact ⟨h3, vs, by rw [upd_ne na]; exact h4, h5⟩
    | frz ds => exact hc
    | obj c fs =>
      obtain ⟨h3, dx, vs, h4, h5, h6, h7, h8⟩ := hc
      have nx : dx ≠ p := fun z => hno _ (by rw [← z]; exact h5)
      exact ⟨h3, dx, vs, by rw [upd_ne na]; exact h4, by rw [upd_ne nx]; exact h5, h6, h7, h8⟩
theorem Ext.poke (e : Ext Hd0 io0 H0 Hd io H) (hp : H0 p = none) : Ext Hd0 io0 H0 Hd io (upd H p o) := by
  refine ⟨e.hd, e.new, e.pre, fun a u h hn => ?_, fun a h => ?_⟩
  · rw [upd_ne (ne_of_none h hp)]; exact e.fr a u h hn
  · by_cases z : a = p
    · rw [z]; exact hp
    · rw [upd_ne z] at h; exact e.liv a h
theorem Ext.keepHid {Hd' H' : Hp} {io' : List Addr} (e : Ext Hd io H Hd' io' H') (hd : Hd p = none) (hn : p ∉ io) (hp : H p = some o) : Hd' p = none ∧ p ∉ io' ∧ H' p = some o := by
  obtain ⟨r, e1, n1⟩ := e.pre
  refine ⟨?_, fun z => ?_, e.fr p o hp hn⟩
  · cases q : Hd' p with
    | none => rfl
    | some u =>
      rcases e.new p hd (by rw [q]; simp) with z | z
      · rw [hp] at z; cases z
      · exact absurd z hn
  · rw [e1] at z
    rcases List.mem_append.mp z with z | z
    · exact hn z
    · have := n1 p z; rw [hp] at this; cases this
end
/-- the state of a comprehension at its turn i -/
def LcAt (K : PySem.W.Frag) (Hd0 : Hp) (io0 : List Addr) (H0 : Hp) (Dd : Addr) (Q : VK) (fc fe : Ro → Store → R W) (t : T) (ro : Ro) (ds : List D) (i m : Nat) (H : Hp) : Prop :=
  m + i = ds.length ∧ ∃ Hd io st vacc acc, Ext Hd0 io0 H0 Hd io H ∧ Rl K Hd io st H ∧ Hd Dd = none ∧ Dd ∉ io ∧ H Dd = some (.lst vacc) ∧ RelDs K Hd vacc acc ∧ acc.length ≤ i ∧
    Post K Hd0 io0 H0 (RelW K) Q ((lcRun fc fe t ro (ds.drop i) st acc).bind fun ds st2 => .ok (.d (.lst ds)) st2)
theorem nox_ok {α : Type} {r : R α} {a : α} {st : Store} (h : r.nox = .ok a st) : r = .ok a st := by
  cases r <;> simp [R.nox] at h ⊢
  exact h
theorem tst_ok {α : Type} {r : R W} {f : Bool → W → Store → R α} (h : r.tst f ≠ .bad) (hx : ∀ x s, r ≠ .exc x s) : ∃ w st b, r = .ok w st ∧ truth st w = some b ∧ r.tst f = f b w st := by
  cases r with
  | bad => exact absurd rfl h
  | exc x s => exact absurd rfl (hx x s)
  | ok w st =>
    cases ht : truth st w with
    | none => exact absurd (by simp [R.tst, ht]) h
    | some b => exact ⟨w, st, b, rfl, ht, by simp [R.tst, ht]⟩
theorem post_bind {K : PySem.W.Frag} {Hd0 : Hp} {io0 : List Addr} {H0 : Hp} {Q : VK} {α : Type} {r : R α} {f : α → Store → R W} (h : Post K Hd0 io0 H0 (RelW K) Q (r.bind f)) : ∃ a st, r = .ok a st ∧ Post K Hd0 io0 H0 (RelW K) Q (f a st) := by
  cases r with
  | bad => exact h.elim
  | exc x s => exact h.elim
  | ok a st => exact ⟨a, st, rfl, h⟩
theorem bind_assoc {α β γ : Type} (r : R α) (f : α → Store → R β) (g : β → Store → R γ) : (r.bind f).bind g = r.bind fun a st => (f a st).bind g := by
  cases r <;> rfl
theorem ifs_cases {ifs : List Expr} {cm : M} {sc : Scope} (h : (match ifs with
      | [] => (match cm with
        | .bl true => true
        | _ => false)
      | [x] => chk N sc cm x
      | _ => false) = true) : (ifs = [] ∧ cm = .bl true) ∨ ∃ x, ifs = [x] ∧ chk N sc cm x = true := by
  split at h
  · split at h
    · exact .inl ⟨rfl, rfl⟩
    · cases h
  · exact .inr ⟨_, rfl, h⟩
  · cases h
structure LcP (G : Gt) (N : List Str) (S : IsX) (Wx : WX) (X : Cx) (own : List Nat) (t : T) (it : I) (cm em : M) (elt tg iter : Expr) (ifs : List Expr) (scope : Scope) : Prop where
  pi : PI X tg iter (tI S Wx G X.K it)
  blk : BlkOk X.N X.env.scope scope (ownN N own)
  pg : ∀ (s : Shared) (H : Hp) (C : Addr) (cl : List (Str × Addr)) (fp : List Addr), PG (X.blk s H scope (compEnvC scope cl C X.env) fp) tg (gT X.K t)
  pt : ∀ (s : Shared) (H : Hp) (C : Addr) (cl : List (Str × Addr)) (fp : List Addr), PTs (X.blk s H scope (compEnvC scope cl C X.env) fp) ifs (tT S (fun _ _ _ _ => False) G X.K cm)
  pe : ∀ (s : Shared) (H : Hp) (C : Addr) (cl : List (Str × Addr)) (fp : List Addr), PE (X.blk s H scope (compEnvC scope cl C X.env) fp) elt (tM S (fun _ _ _ _ => False) G X.K em)
  fold : ∀ x, foldedSetIterable iter X.env x = pure x
  imp : ∀ σ H Q, tM S Wx G X.K (.lc own t it cm em) σ H Q → tLc (tI S Wx G X.K it) (gT X.K t) (tT S (fun _ _ _ _ => False) G X.K cm) (tM S (fun _ _ _ _ => False) G X.K em) ((ownN N own).map (fun x => x.2)) σ H Q
theorem lc_parts (own : List Nat) (t : T) (it : I) (cm em : M) (hi : SndI G N it) (hcm : Snd G N cm) (hem : Snd G N em) (S : IsX) (Wx : WX) (sc : Scope) (X : Cx) {elt : Expr} {gens : List Comprehension} {scope : Scope} {p : Pos} (c : CtxOk G N S Wx sc X) (h : chk N sc (.lc own t it cm em) (.ListComp elt gens scope p) = true) :
    ∃ tg iter ifs, gens = [⟨tg, iter, ifs, 0⟩] ∧ LcP G N S Wx X own t it cm em elt tg iter ifs scope := by
  match gens, h with
  | [g], h =>
    simp only [chk, Bool.and_eq_true, decide_eq_true_eq] at h
    obtain ⟨tg, iter, ifs, asy⟩ := g
    dsimp only at h
    obtain ⟨⟨⟨⟨⟨⟨⟨⟨rfl, h1⟩, h2⟩, h3⟩, h4⟩, h5⟩, h6⟩, h7⟩, h8⟩ := h
    refine ⟨tg, iter, ifs, rfl, ?_⟩
    have PIi := hi S Wx sc X iter tg c h4 (fun z => by
      rw [z] at h3
      simpa using h3)
    have blkOk : ∀ (s : Shared) (H : Hp) (C : Addr) (cl : List (Str × Addr)) (fp : List Addr), CtxOk G N S (fun _ _ _ _ => False) (relS scope sc) (X.blk s H scope (compEnvC scope cl C X.env) fp) := fun s H C cl fp =>
      { hN := c.hN, nd := c.nd, hsc := by rw [← c.hsc]; rfl, calm := c.calm, tk := takes0, gd := c.gd, room := c.room, con := c.con, blt := c.blt, fp := c.fp, fs := c.fs, rm := c.rm, hS := c.hS, ini := c.ini, meth := c.meth, cfl := c.cfl, tix := c.tix, mke := c.mke, sub := c.sub, exm := c.exm, fld := c.fld }
    have B : BlkOk X.N X.env.scope scope (ownN N own) := by
      rw [c.hN, c.hsc]
      exact blkOk_by h8
    have ixs : (ownN N own).map (fun x => x.2) = own := by
      unfold ownN
      rw [List.map_map]
      exact (List.map_congr_left fun i _ => rfl).trans (List.map_id own)
    have inOwn : ∀ i ∈ tIdx t, i ∈ own := fun i hi => by
      have := List.all_eq_true.mp h2 i hi
      simpa using this
    have IFS : ∀ (s : Shared) (H : Hp) (C : Addr) (cl : List (Str × Addr)) (fp : List Addr), PTs (X.blk s H scope (compEnvC scope cl C X.env) fp) ifs (tT S (fun _ _ _ _ => False) G X.K cm) := fun s H C cl fp => by
      rcases ifs_cases h6 with ⟨rfl, rfl⟩ | ⟨x, rfl, h6⟩
      · refine ⟨fun pins s σ H Q I q => pts_nil.run pins s σ H Q I ?_⟩
        obtain ⟨Hd, io, ro, st, l, rs, q⟩ := q
        simp only [ev, R.tst, R.bind_ok, truth, peek, Option.bind, D.truth] at q
        exact PX.here q l rfl
      · exact pts_one (hcm S _ _ _ x (blkOk s H C cl fp) h6).2.1
    refine ⟨PIi, B, fun s H C cl fp => pg_ok (og := scope) (X := X.blk s H scope (compEnvC scope cl C X.env) fp) c.hN c.nd c.calm (blkOk s H C cl fp).hsc (fun x z => by
        show (scope.names.lookup x == some .cell) = true
        rw [z]; decide) t tg h1, IFS, fun s H C cl fp => (hem S _ _ _ elt (blkOk s H C cl fp) h7).1, fun x => by
        cases iter <;> first | rfl | (cases h5; done), fun σ H Q ⟨Hd, io, ro, st, l, rs, q⟩ => ?_⟩
    rw [ixs]
    simp only [ev] at q
    refine ⟨Hd, io, ro, st, l, rs, PX.bind q fun J H0 Hd0 io0 ds st0 e0 l0 y q => ?_⟩
    intro Dd hD
    have rs0 := rs.mono e0
    have q : Post X.K Hd0 io0 H0 (RelW X.K) Q ((lcRun (ev G cm) (ev G em) t (wipeW ro own) ds st0 []).bind fun d2 st2 => .ok (.d (.lst d2)) st2) ∧ ds.length ≤ 1000000 := by
      cases hr : lcRun (ev G cm) (ev G em) t (wipeW ro own) ds st0 [] with
      | bad => rw [hr] at q; exact q.elim
      | exc x s => rw [hr] at q; exact q.elim
      | ok d2 st2 =>
        rw [hr] at q
        simp only [R.nox, R.bind_ok] at q ⊢
        split at q
        · rename_i hz; exact ⟨q, hz⟩
        · exact q.elim
    obtain ⟨q, hz⟩ := q
    refine ⟨LcAt X.K Hd0 io0 H0 Dd Q (ev G cm) (ev G em) t (wipeW ro own) ds, ⟨ds.length, by omega, Hd0, io0, st0, [], [], Ext.poke Ext.refl hD, l0.hide hD, l0.fresh hD, fun z => l0.liv _ z hD, upd_same, .nil, by simp, by simpa using q⟩, fun i m H ⟨hm, Hd1, io1, st1, vacc, acc, e1, l1, d1, d2, d3, ra, la, q⟩ => ?_⟩
    by_cases hi : i < ds.length
    · right
      have le01 : Le Hd0 H := e1.hd.trans l1.sub
      refine ⟨y.go i H le01 hi, fun H' => LcAt X.K Hd0 io0 H0 Dd Q (ev G cm) (ev G em) t (wipeW ro own) ds (i + 1) (m - 1) H', fun H' w => ⟨m - 1, by omega, w⟩, fun x H' yy => ?_⟩
      obtain ⟨d, hd, hx⟩ := y.yld i H x H' le01 hi yy
      have drop_ : ds.drop i = d :: ds.drop (i + 1) := by
        rw [List.drop_eq_getElem_cons hi]
        rw [List.getElem?_eq_getElem hi] at hd
        cases hd
        rfl
      rw [drop_] at q
      simp only [lcRun] at q
      cases ha : asgT t d (wipeW ro own) with
      | none => rw [ha] at q; exact q.elim
      | some ro1 =>
        rw [ha] at q
        dsimp only at q
        -- what is yielded is data
        have got : ∃ Hd2, Ext Hd0 io0 H0 Hd2 io1 H' ∧ Rl X.K Hd2 io1 st1 H' ∧ RelD X.K Hd2 x d ∧ Hd2 Dd = none ∧ H' Dd = some (.lst vacc) ∧ Le Hd1 Hd2 := by
          rcases hx with ⟨rfl, hx⟩ | ⟨T, vs, es, rfl, hT, rfl, rfl, hr⟩
          · exact ⟨Hd1, e1, l1, RelD.mono e1.hd hx, d1, d3, Le.refl _⟩
          · obtain ⟨l2, e2⟩ := l1.newD hT (.tup vs)
            have nT : Dd ≠ T := fun z => by rw [z, hT] at d3; cases d3
            exact ⟨_, e1.trans e2, l2, relD_newTup (l1.fresh hT) (hr.mono e1.hd), by rw [upd_ne nT]; exact d1, by rw [upd_ne nT]; exact d3, e2.hd⟩
        obtain ⟨Hd2, e2, l2, rx, d1', d3', le12⟩ := got
        have rsw : RelS X.K Hd2 io1 (wipeW ro own) (L2.wipe σ own) := (rs0.mono e2).wipe own
        refine ⟨Hd2, io1, wipeW ro own, d, ro1, l2.sub, rx, rsw, ha, fun σ2 rs2 off => ⟨wipe_off (off.mono inOwn), ?_⟩⟩
        obtain ⟨dd, st9, hok, q⟩ := post_bind q
        have hnb : ((ev G cm ro1 st1).tst fun b _ st1 => if b = true then (ev G em ro1 st1).bind fun w st2 => (keepD st2 w).bind fun d st3 => lcRun (ev G cm) (ev G em) t (wipeW ro own) (ds.drop (i + 1)) st3 (acc ++ [d]) else lcRun (ev G cm) (ev G em) t (wipeW ro own) (ds.drop (i + 1)) st1 acc) = .ok dd st9 := hok
        cases hc : ev G cm ro1 st1 with
        | bad => rw [hc] at hnb; cases hnb
        | exc a b => rw [hc] at hnb; cases hnb
        | ok wc st2 =>
          rw [hc] at hnb
          simp only [R.tst, R.bind_ok] at hnb
          cases ht : truth st2 wc with
          | none => rw [ht] at hnb; cases hnb
          | some b =>
            rw [ht] at hnb
            dsimp only at hnb
            refine ⟨Hd2, io1, ro1, st1, l2, rs2, ?_⟩
            rw [hc]
            simp only [R.tst, R.bind_ok]
            rw [ht]
            intro b' Hd3 io3 H3 e3 l3 rb
            cases (show b = b' from rb)
            obtain ⟨k1, k2, k3⟩ := e3.keepHid d1' d2 d3'
            cases b with
            | false =>
              simp only [Bool.false_eq_true, if_false] at hnb ⊢
              refine ⟨by omega, Hd3, io3, st2, vacc, acc, e2.trans e3, l3, k1, k2, k3, ra.mono (le12.trans e3.hd), by omega, ?_⟩
              rw [hnb]
              exact q
            | true =>
              simp only [if_true] at hnb ⊢
              cases he : ev G em ro1 st2 with
              | bad => rw [he] at hnb; cases hnb
              | exc a b => rw [he] at hnb; cases hnb
              | ok we st4 =>
                rw [he, R.bind_ok] at hnb
                cases hk : keepD st4 we with
                | bad => rw [hk] at hnb; cases hnb
                | exc a b => exact (keepD_noexc hk).elim
                | ok d4 st5 =>
                  rw [hk, R.bind_ok] at hnb
                  refine ⟨Hd3, io3, ro1, st2, l3, rs2.mono e3, ?_⟩
                  rw [he]
                  intro v4 Hd4 io4 H4 e4 l4 r4
                  obtain ⟨Hd5, e5, l5, r5⟩ := keepD_ok l4 r4 hk
                  have e45 := e4.trans e5
                  obtain ⟨j1, j2, j3⟩ := e45.keepHid k1 k2 k3
                  have len : vacc.length = acc.length := ra.length
                  refine ⟨vacc, j3, by rw [len, sizeLine_eq]; omega, by omega, Hd5, io4, st5, vacc ++ [v4], acc ++ [d4], ((e2.trans e3).trans e45).poke hD, l5.poke j1 j2 (fun x z => by rw [j3] at z; cases z), j1, j2, upd_same, ?_, by simp; omega, ?_⟩
                  · exact (ra.mono ((le12.trans e3.hd).trans e45.hd)).append (.cons r5 .nil)
                  · rw [hnb]
                    exact q
    · left
      have hi' : ds.length ≤ i := by omega
      refine ⟨y.stop i H (e1.hd.trans l1.sub) hi', ?_⟩
      rw [List.drop_eq_nil_of_le hi'] at q
      simp only [lcRun, R.bind_ok] at q
      obtain ⟨l2, e2⟩ := l1.adoptD e1 hD d1 d2 d3 (fun x z => nomatch z)
      exact q _ _ _ _ e2 l2 (relD_newLst d1 ra)
theorem snd_lc (own : List Nat) (t : T) (it : I) (cm em : M) (hi : SndI G N it) (hcm : Snd G N cm) (hem : Snd G N em) : Snd G N (.lc own t it cm em) := by
  intro S Wx sc X e c h
  cases e <;> try (simp [chk] at h; done)
  rename_i elt gens scope p
  obtain ⟨tg, iter, ifs, rfl, P⟩ := lc_parts own t it cm em hi hcm hem S Wx sc X c h
  refine snd_val ?_ (fun _ => rfl) (fun _ _ _ z => nomatch z)
  exact PEimp (pe_lc c.calm (by rw [c.hN]; exact c.nd) P.pi P.blk P.pg P.pt P.pe P.fold) P.imp
end Ev
namespace Ev
open PySem PySem.Spec PyProof.Rows L2
theorem sound (G : Gt) (N : List Str) (m : M) : Snd G N m :=
  M.rec (motive_1 := Snd G N) (motive_2 := AllSnd G N) (motive_3 := SndI G N)
    snd_var snd_glob snd_non snd_bl snd_int snd_str
    (fun op a b ha hb => snd_bin op a b ha hb) (fun a ha => snd_neg a ha) (fun op a b ha hb => snd_cmp op a b ha hb) (fun op op' a b c ha hb hc => snd_chain op op' a b c ha hb hc)
    (fun a b ha hb => snd_and a b ha hb) (fun a b ha hb => snd_or a b ha hb) (fun a ha => snd_not a ha) (fun c a b hc ha hb => snd_ite c a b hc ha hb)
    (fun es h => snd_tup es h) (fun es h => snd_lst es h) snd_nlst (fun ks es h => snd_dic ks es h) snd_ndic
    (fun d k hd hk => snd_dget d k hd hk) (fun a i ha hi => snd_sub a i ha hi) (fun a lo hi h1 h2 h3 => snd_slc a lo hi h1 h2 h3) snd_absent
    (fun b es h => snd_bi b es h) (fun a t h => snd_isi a t h) (fun m o es h1 h2 => snd_mth m o es h1 h2)
    (fun f es h => snd_callP f es h) (fun f es h => snd_callS f es h)
    (fun x e h => snd_tix x e h) (fun es h => snd_lstc es h) (fun a b ha hb => snd_addc a b ha hb) (fun neg k d hk hd => snd_kin neg k d hk hd)
    (fun c es h => snd_new c es h) (fun o m es ho h => snd_meth o m es ho h)
    (fun c es h => snd_mk c es h) (fun o f h => snd_fld o f h) (fun a y h => snd_isx a y h)
    (fun own t it c e h1 h2 h3 => snd_lc own t it c e h1 h2 h3)
    trivial (fun e r h1 h2 => ⟨h1, h2⟩)
    (fun e h => sndi_it e h) (fun a h => sndi_rng1 a h) (fun a b h1 h2 => sndi_rng2 a b h1 h2) (fun e h => sndi_enm e h) (fun a b h1 h2 => sndi_zip a b h1 h2) m
theorem soundI (G : Gt) (N : List Str) (m : I) : SndI G N m := by
  cases m with
  | it e => exact sndi_it e (sound G N e)
  | rng1 a => exact sndi_rng1 a (sound G N a)
  | rng2 a b => exact sndi_rng2 a b (sound G N a) (sound G N b)
  | enm a => exact sndi_enm a (sound G N a)
  | zip a b => exact sndi_zip a b (sound G N a) (sound G N b)
end Ev
set_option Elab.async false
set_option linter.all false
set_option maxRecDepth 100000
set_option maxHeartbeats 1000000
namespace Ev
open PySem PySem.Spec PyProof.Rows L2
/-! ### statements -/
mutual
inductive S where
  | pass | brk | cnt | retN
  | set (i : Nat) (e : M) | unp (t : T) (e : M) | par (i j : Nat) (a b : M) | par3 (i j k : Nat) (a b c : M)
  | dput (o k v : M) | app (o e : M)
  | expr (e : M) | ret (e : M)
  | fset (o : M) (f : Str) (e : M)
  | raise_ (c : Str) (es : Ms) | tryk (b : Ss) (y : Str) (i j : Nat)
  | iff (c : M) (a b : Ss) | for_ (t : T) (it : I) (b : Ss) | whl (n : Nat) (c : M) (b : Ss)
inductive Ss where
  | nil | cons (s : S) (r : Ss)
end
inductive O where
  | nx (ro : Ro) (st : Store)
  | ret (w : W) (st : Store)
  | brk (ro : Ro) (st : Store)
  | cnt (ro : Ro) (st : Store)
  | exc (x : Xv) (ro : Ro) (st : Store)
  | bad
def R.o {α : Type} (r : R α) (ro : Ro) (f : α → Store → O) : O := match r with
  | .ok a st => f a st
  | .exc x st => .exc x ro st
  | .bad => .bad
def R.to (r : R W) (ro : Ro) (f : Bool → Store → O) : O := r.o ro fun w st => match truth st w with
  | some b => f b st
  | none => .bad
def O.then (o : O) (f : Ro → Store → O) : O := match o with
  | .nx ro st => f ro st
  | .ret w st => .ret w st
  | .brk ro st => .brk ro st
  | .cnt ro st => .cnt ro st
  | .exc x ro st => .exc x ro st
  | .bad => .bad
/-- a loop's turn -/
def O.turn (o : O) (f : Ro → Store → O) : O := match o with
  | .nx ro st => f ro st
  | .cnt ro st => f ro st
  | .brk ro st => .nx ro st
  | .ret w st => .ret w st
  | .exc x ro st => .exc x ro st
  | .bad => .bad
@[simp] theorem R.o_ok {α : Type} (a : α) (st : Store) (ro : Ro) (f : α → Store → O) : (R.ok a st).o ro f = f a st := rfl
@[simp] theorem O.then_nx (ro : Ro) (st : Store) (f : Ro → Store → O) : (O.nx ro st).then f = f ro st := rfl
def forRun (body : Ro → Store → O) (t : T) : List D → Ro → Store → O
  | [], ro, st => .nx ro st
  | x :: r, ro, st => match asgT t x ro with
    | none => .bad
    | some ro1 => (body ro1 st).turn fun ro2 st2 => forRun body t r ro2 st2
def whlRun (c : Ro → Store → R W) (body : Ro → Store → O) : Nat → Ro → Store → O
  | 0, _, _ => .bad
  | n + 1, ro, st => (c ro st).to ro fun b st1 => if b = true then (body ro st1).turn fun ro2 st2 => whlRun c body n ro2 st2 else .nx ro st1
def putD (kvs : List (Key × D)) (k : Key) (d : D) : List (Key × D) :=
  if (kvs.any fun kv => decide (kv.1 = k)) = true then kvs.map (fun kv => if kv.1 = k then (kv.1, d) else kv) else kvs ++ [(k, d)]
def setRo (ro : Ro) (i : Nat) (w : W) (st : Store) : O := if i < ro.length then .nx (ro.set i (some w)) st else .bad
def isLst (st : Store) : W → Bool
  | .cell n => (match st[n]? with
    | some (.lst _) => true
    | _ => false)
  | _ => false
def appC (w : W) (d : D) (ro : Ro) (st : Store) : O := match w with
  | .cell n => (match st[n]? with
    | some (.lst ds) => if ds.length < 1000000 then .nx ro (st.set n (.lst (ds ++ [d]))) else .bad
    | _ => .bad)
  | _ => .bad
def fsetC (G : Gt) (f : Str) (w : W) (wo : W) (ro : Ro) (st : Store) : O := match wo with
  | .cell n => (match st[n]? with
    | some (.obj c fs) => if G.cfl c f = true ∧ fs.length < 1000 then .nx ro (st.set n (.obj c (putFW f w fs))) else .bad
    | _ => .bad)
  | _ => .bad
/-- an exception of the class c in the air -/
def flyD : Option D → Ro → Store → O
  | some (.exv c ks xs), ro, st => .exc ⟨c, ks, xs⟩ ro st
  | _, _, _ => .bad
/-- except y as (slot i): (slot j) = (slot i) -/
def O.tryk (G : Gt) (y : Str) (i j : Nat) : O → O
  | .exc x ro st => if G.exm y y = some true then (match G.exm x.cls y with
    | some true => if i < ro.length ∧ j < ro.length then .nx (((ro.set i (some (.d (.exv x.cls x.ks x.xs)))).set j (some (.d (.exv x.cls x.ks x.xs)))).set i none) st else .bad
    | some false => .exc x ro st
    | none => .bad) else .bad
  | .nx ro st => if G.exm y y = some true then .nx ro st else .bad
  | .ret w st => if G.exm y y = some true then .ret w st else .bad
  | .brk ro st => if G.exm y y = some true then .brk ro st else .bad
  | .cnt ro st => if G.exm y y = some true then .cnt ro st else .bad
  | .bad => .bad
mutual
def ex (G : Gt) : S → Ro → Store → O
  | .pass, ro, st => .nx ro st
  | .brk, ro, st => .brk ro st
  | .cnt, ro, st => .cnt ro st
  | .retN, _, st => .ret (.d .non) st
  | .set i e, ro, st => (ev G e ro st).o ro fun w st1 => setRo ro i w st1
  | .unp t e, ro, st => (ev G e ro st).o ro fun w st1 => (keepD st1 w).o ro fun d st2 => (match asgT t d ro with
    | some ro1 => .nx ro1 st2
    | none => .bad)
  | .par i j a b, ro, st => (ev G a ro st).o ro fun w st1 => (ev G b ro st1).o ro fun u st2 => if i < ro.length ∧ j < ro.length then .nx ((ro.set i (some w)).set j (some u)) st2 else .bad
  | .par3 i j k a b c, ro, st => (ev G a ro st).o ro fun w st1 => (ev G b ro st1).o ro fun u st2 => (ev G c ro st2).o ro fun v st3 => if i < ro.length ∧ j < ro.length ∧ k < ro.length then .nx (((ro.set i (some w)).set j (some u)).set k (some v)) st3 else .bad
  | .dput o k v, ro, st => (ev G v ro st).o ro fun wv st1 => (ev G o ro st1).o ro fun wo st2 => (ev G k ro st2).o ro fun wk st3 => (keepD st3 wv).o ro fun d st4 => (match wo, wk with
    | .cell n, .d kd => (match st4[n]?, keyOf kd with
      | some (.dic kvs), some key => if kvs.length < 1000000 then .nx ro (st4.set n (.dic (putD kvs key d))) else .bad
      | _, _ => .bad)
    | _, _ => .bad)
  | .app o e, ro, st => (ev G o ro st).o ro fun wo st1 => if isLst st1 wo = true then (ev G e ro st1).o ro fun we st2 => (keepD st2 we).o ro fun d st3 => appC wo d ro st3 else .bad
  | .expr e, ro, st => (ev G e ro st).o ro fun _ st1 => .nx ro st1
  | .ret e, ro, st => (ev G e ro st).o ro fun w st1 => .ret w st1
  | .fset o f e, ro, st => (ev G e ro st).o ro fun w st1 => (ev G o ro st1).o ro fun wo st2 => fsetC G f w wo ro st2
  | .raise_ c es, ro, st => (match G.mke c with
    | none => .bad
    | some k => (evs G es ro st).o ro fun ws st1 => (keepAll ws st1).o ro fun ds st2 => flyD (mkD c k ds) ro st2)
  | .tryk b y i j, ro, st => O.tryk G y i j (exs G b ro st)
  | .iff c a b, ro, st => (ev G c ro st).to ro fun k st1 => if k = true then exs G a ro st1 else exs G b ro st1
  | .for_ t it b, ro, st => (evi G it ro st).o ro fun ds st1 => forRun (exs G b) t ds ro st1
  | .whl n c b, ro, st => whlRun (ev G c) (exs G b) n ro st
def exs (G : Gt) : Ss → Ro → Store → O
  | .nil, ro, st => .nx ro st
  | .cons s r, ro, st => (ex G s ro st).then fun ro1 st1 => exs G r ro1 st1
end
/-! ### the text is this -/
def swB (sc : Scope) (v : Expr) (x : Str) (p : Pos) : Bool := match v with
  | .ListComp _ _ s q => decide (sc.names.lookup x = some .local) && (p.line == q.line) && !(s.names.any fun (n, k) => n == x && (k == .local || k == .cell))
  | .SetComp _ _ _ _ => true
  | .DictComp _ _ _ _ _ => true
  | _ => false
def isLC : Expr → Bool
  | .ListComp _ _ _ _ => true
  | _ => false
def notComp : Expr → Bool
  | .ListComp _ _ _ _ => false
  | .SetComp _ _ _ _ => false
  | .DictComp _ _ _ _ _ => false
  | _ => true
def ownB (sc : Scope) (x : Str) : Bool := match sc.names.lookup x with
  | some .local => true
  | some .cell => true
  | _ => false
def swNames (sc : Scope) (line : Nat) (ts : List Expr) : List Str := ts.filterMap fun
  | .Name id pos => if decide (sc.names.lookup id = some .local) && pos.line == line then some id else none
  | _ => none
def noSwap (sc : Scope) (tg v : Expr) : Bool := match v with
  | .Tuple vs _ _ => (match tg with
    | .Tuple ts _ _ => decide (ts.length ≠ vs.length) || decide ((swNames sc ((ts.head?.map (·.pos.line)).getD 0) ts).length ≠ ts.length) || vs.all (foldedForSure 8)
    | _ => false)
  | _ => isTupE tg
mutual
def chkS (N : List Str) : Scope → S → Stmt → Bool
  | _, .pass, .Pass _ => true
  | _, .pass, .Expr (.Constant (.str _) _ _) _ => true
  | _, .brk, .Break _ => true
  | _, .cnt, .Continue _ => true
  | _, .retN, .Return none _ => true
  | sc, .set i e, .Assign [.Name x p] v _ => decide (N[i]? = some x) && ownB sc x && chk N sc e v && (!swB sc v x p || isLC v)
  | sc, .unp t e, .Assign [tg] v _ => chkT N sc sc t tg && chk N sc e v && noSwap sc tg v && notComp v
  | sc, .par i j a b, .Assign [.Tuple [.Name x px, .Name y py] _ _] (.Tuple [u, v] _ _) _ => decide (N[i]? = some x) && decide (N[j]? = some y) && decide (i ≠ j) && decide (sc.names.lookup x = some .local) && decide (sc.names.lookup y = some .local) && (py.line == px.line) && noStar u && noStar v &&
      !([u, v].all (foldedForSure 8)) && !([u, v].all (constantsAlone 8)) && chk N sc a u && chk N sc b v
  | sc, .par3 i j k a b c, .Assign [.Tuple [.Name x px, .Name y py, .Name z pz] _ _] (.Tuple [u, v, w] _ _) _ => decide (N[i]? = some x) && decide (N[j]? = some y) && decide (N[k]? = some z) && decide (i ≠ j ∧ i ≠ k ∧ j ≠ k) && decide (sc.names.lookup x = some .local) && decide (sc.names.lookup y = some .local) && decide (sc.names.lookup z = some .local) &&
      (py.line == px.line) && (pz.line == px.line) && (noStar u && noStar v && noStar w) && !([u, v, w].all (foldedForSure 8)) && !([u, v, w].all (constantsAlone 8)) && chk N sc a u && chk N sc b v && chk N sc c w
  | sc, .dput o k v, .Assign [.Subscript xo xk _] xv _ => chk N sc o xo && chk N sc k xk && chk N sc v xv && notComp xv && noSlice xk
  | sc, .app o e, .Expr (.Call (.Attribute xo nm ap) [x] [] cp) _ => decide (nm = ("append" : Str)) && (ap.endLine == cp.line) && notBare xo && noStar x && chk N sc o xo && chk N sc e x
  | sc, .expr e, .Expr v _ => chk N sc e v && notComp v
  | sc, .ret e, .Return (some v) _ => chk N sc e v
  | sc, .fset o f e, .Assign [.Attribute xo nm _] v _ => decide (nm = f) && chk N sc o xo && chk N sc e v && notComp v
  | sc, .raise_ c es, .Raise (some (.Call (.Name x _) (e :: r) [] _)) none _ => decide (x = c) && glB sc x && chks N sc es (e :: r)
  | sc, .tryk b y i j, .Try body [.ExceptHandler (some (.Name z _)) (some n) [.Assign [.Name v _] (.Name m _) _] _] [] [] _ => decide (z = y) && glB sc z && decide (N[i]? = some n) && decide (sc.names.lookup n = some .local) && !dbg n && !(n == ("__classdict__" : Str)) && decide (m = n) && decide (N[j]? = some v) && ownB sc v && chkSs N sc b body
  | sc, .iff c a b, .If e x y _ => chk N sc c e && chkSs N sc a x && chkSs N sc b y
  | sc, .for_ t it b, .For tg iter body [] _ => chkT N sc sc t tg && (!wantTup it || isTupE tg) && chki N sc it iter && noSet iter && chkSs N sc b body
  | sc, .whl _ c b, .While e body [] _ => chk N sc c e && chkSs N sc b body
  | _, _, _ => false
def chkSs (N : List Str) : Scope → Ss → List Stmt → Bool
  | _, .nil, [] => true
  | sc, .cons s r, x :: xs => chkS N sc s x && chkSs N sc r xs
  | _, _, _ => false
end
/-! ### what a statement asks of the state -/
def PO (K : PySem.W.Frag) (S : IsX) (Wx : WX) (Hd : Hp) (io : List Addr) (H : Hp) (D : Ends) : O → Prop
  | .nx ro st => ∀ σ Hd' io' H', Ext Hd io H Hd' io' H' → Rl K Hd' io' st H' → RelS K Hd' io' ro σ → D.nx σ H'
  | .brk ro st => ∀ σ Hd' io' H', Ext Hd io H Hd' io' H' → Rl K Hd' io' st H' → RelS K Hd' io' ro σ → D.bk σ H'
  | .cnt ro st => ∀ σ Hd' io' H', Ext Hd io H Hd' io' H' → Rl K Hd' io' st H' → RelS K Hd' io' ro σ → D.ct σ H'
  | .ret w st => ∀ v Hd' io' H', Ext Hd io H Hd' io' H' → Rl K Hd' io' st H' → RelW K Hd' io' w v → D.rt v H'
  | .exc x ro st => ∀ σ cls d Hd' io' H', Ext Hd io H Hd' io' H' → Rl K Hd' io' st H' → RelS K Hd' io' ro σ → S x cls d Hd' → Wx cls d σ H'
  | .bad => False
section
variable {K : PySem.W.Frag} {S : IsX} {Wx : WX} {Hd H : Hp} {io : List Addr} {Dn : Ends}
theorem PO.ext {Hd1 H1 : Hp} {io1 : List Addr} {o : O} (e : Ext Hd io H Hd1 io1 H1) (h : PO K S Wx Hd io H Dn o) : PO K S Wx Hd1 io1 H1 Dn o := by
  cases o with
  | bad => exact h
  | nx ro st => exact fun σ a b c e1 => h σ a b c (e.trans e1)
  | brk ro st => exact fun σ a b c e1 => h σ a b c (e.trans e1)
  | cnt ro st => exact fun σ a b c e1 => h σ a b c (e.trans e1)
  | ret w st => exact fun σ a b c e1 => h σ a b c (e.trans e1)
  | exc x ro st => exact fun σ cls d a b c e1 => h σ cls d a b c (e.trans e1)
theorem PO.bind {α β : Type} {Rel : Hp → List Addr → α → β → Prop} {r : R α} {ro : Ro} {f : α → Store → O} {σ : L2.St} {Q1 : β → Hp → Prop} (rs : RelS K Hd io ro σ) (h : PO K S Wx Hd io H Dn (r.o ro f))
    (k : ∀ v H1 Hd1 io1 w st1, Ext Hd io H Hd1 io1 H1 → Rl K Hd1 io1 st1 H1 → RelS K Hd1 io1 ro σ → Rel Hd1 io1 w v → PO K S Wx Hd1 io1 H1 Dn (f w st1) → Q1 v H1) : PX K (eX S Wx σ) Hd io H Rel Q1 r := by
  cases r with
  | bad => exact h
  | exc x st => exact fun a b c e l cls d q => h σ cls d a b c e l (rs.mono e) q
  | ok w st => exact fun v a b c e l r => k v c a b w st e l (rs.mono e) r (PO.ext e h)
theorem PO.tst {r : R W} {ro : Ro} {f : Bool → Store → O} {σ : L2.St} {Q1 : Bool → Hp → Prop} (rs : RelS K Hd io ro σ) (h : PO K S Wx Hd io H Dn (r.to ro f))
    (k : ∀ b H1 Hd1 io1 st1, Ext Hd io H Hd1 io1 H1 → Rl K Hd1 io1 st1 H1 → RelS K Hd1 io1 ro σ → PO K S Wx Hd1 io1 H1 Dn (f b st1) → Q1 b H1) : PX K (eX S Wx σ) Hd io H RelB Q1 (r.tst fun b _ st1 => .ok b st1) := by
  cases r with
  | bad => exact h
  | exc x st => exact fun a b c e l cls d q => h σ cls d a b c e l (rs.mono e) q
  | ok w st =>
    simp only [R.to, R.o_ok, R.tst, R.bind_ok] at h ⊢
    cases ht : truth st w with
    | none => rw [ht] at h; exact h
    | some b =>
      rw [ht] at h
      intro b' Hd1 io1 H1 e1 l1 rb
      cases (show b = b' from rb)
      exact k b H1 Hd1 io1 st e1 l1 (rs.mono e1) (PO.ext e1 h)
theorem PO.keep {w : W} {v : V} {st : Store} {ro : Ro} {f : D → Store → O} (l : Rl K Hd io st H) (r : RelW K Hd io w v) (h : PO K S Wx Hd io H Dn ((keepD st w).o ro f)) :
    ∃ d Hd' st', Ext Hd io H Hd' io H ∧ Rl K Hd' io st' H ∧ RelD K Hd' v d ∧ PO K S Wx Hd' io H Dn (f d st') ∧ keepD st w = .ok d st' := by
  cases h1 : keepD st w with
  | bad => rw [h1] at h; exact h.elim
  | exc x s => exact (keepD_noexc h1).elim
  | ok d st1 =>
    rw [h1] at h
    obtain ⟨Hd1, e1, l1, r1⟩ := keepD_ok l r h1
    exact ⟨d, Hd1, st1, e1, l1, r1, PO.ext e1 h, rfl⟩
end
def tS (S : IsX) (Wx : WX) (G : Gt) (K : PySem.W.Frag) (s : Ev.S) : TS := fun D σ H => ∃ Hd io ro st, Rl K Hd io st H ∧ RelS K Hd io ro σ ∧ PO K S Wx Hd io H D (ex G s ro st)
def tSs (S : IsX) (Wx : WX) (G : Gt) (K : PySem.W.Frag) (s : Ss) : TS := fun D σ H => ∃ Hd io ro st, Rl K Hd io st H ∧ RelS K Hd io ro σ ∧ PO K S Wx Hd io H D (exs G s ro st)
structure FnOf (sc : Scope) (X : Cx) : Prop where
  fn : ∀ x, sc.names.lookup x = some .cell → X.fn x = true
  pass : PassesOwn (model X.prog X.w) X.A X.env X.xe
  kind : sc.kind = .function
  stk : X.stack = X.env :: X.outer
  frm : X.env.frame = some X.env.locals
  noex : X.ex = []
theorem PSimp {X : Cx} {s : Stmt} {t t' : TS} (h : PS X s t) (k : ∀ D σ H, t' D σ H → t D σ H) : PS X s t' := ⟨fun pins s σ H D I q => h.run pins s σ H D I (k D σ H q)⟩
theorem PSsimp {X : Cx} {s : List Stmt} {t t' : TS} (h : PSs X s t) (k : ∀ D σ H, t' D σ H → t D σ H) : PSs X s t' := ⟨fun pins s σ H D I q => h.run pins s σ H D I (k D σ H q)⟩
def SndS (G : Gt) (N : List Str) (s : Ev.S) : Prop := ∀ (S : IsX) (Wx : WX) (sc : Scope) (X : Cx) (x : Stmt), CtxOk G N S Wx sc X → FnOf sc X → chkS N sc s x = true → PS X x (tS S Wx G X.K s)
def SndSs (G : Gt) (N : List Str) (s : Ss) : Prop := ∀ (S : IsX) (Wx : WX) (sc : Scope) (X : Cx) (x : List Stmt), CtxOk G N S Wx sc X → FnOf sc X → chkSs N sc s x = true → PSs X x (tSs S Wx G X.K s)
variable {G : Gt} {N : List Str} {S : IsX} {Wx : WX} {sc : Scope} {X : Cx}
theorem own_of (c : CtxOk G N S Wx sc X) (f : FnOf sc X) {x : Str} (h : ownB sc x = true) : L2.Loc X.env.scope x ∧ (X.fn x = true ∨ X.env.scope.names.lookup x = some .local) := by
  rw [c.hsc]
  unfold ownB at h
  split at h
  · rename_i e; exact ⟨.inl e, .inr e⟩
  · rename_i e; exact ⟨.inr e, .inl (f.fn x e)⟩
  · cases h
theorem noComp_sw {v : Expr} {t : Option Expr} {l : Nat} {env : Env} (h : notComp v = true) : swapsWith v t l env = pure false := by
  cases v <;> first | rfl | (cases h; done)
theorem snds_nil : SndSs G N .nil := by
  intro S Wx sc X x c f h
  cases x with
  | cons _ _ => simp [chkSs] at h
  | nil =>
    refine PSsimp pss_nil fun D σ H ⟨Hd, io, ro, st, l, rs, q⟩ => ?_
    simp only [exs] at q
    exact q σ Hd io H Ext.refl l rs
theorem PO.then {K : PySem.W.Frag} {Hd : Hp} {io : List Addr} {H : Hp} {D : Ends} {o : O} {g : Ro → Store → O} {u : TS} (h : PO K S Wx Hd io H D (o.then g))
    (k : ∀ ro st σ Hd1 io1 H1, Ext Hd io H Hd1 io1 H1 → Rl K Hd1 io1 st H1 → RelS K Hd1 io1 ro σ → PO K S Wx Hd1 io1 H1 D (g ro st) → u D σ H1) : PO K S Wx Hd io H { D with nx := u D } o := by
  cases o with
  | bad => exact h
  | nx ro st => exact fun σ a b c e l rs => k ro st σ a b c e l rs (PO.ext e h)
  | brk ro st => exact h
  | cnt ro st => exact h
  | ret w st => exact h
  | exc x ro st => exact h
theorem snds_cons {s : Ev.S} {r : Ss} (hs : SndS G N s) (hr : SndSs G N r) : SndSs G N (.cons s r) := by
  intro S Wx sc X x c f h
  cases x with
  | nil => simp [chkSs] at h
  | cons y ys =>
    simp only [chkSs, Bool.and_eq_true] at h
    refine PSsimp (pss_cons (hs S Wx sc X y c f h.1) (hr S Wx sc X ys c f h.2)) fun D σ H ⟨Hd, io, ro, st, l, rs, q⟩ => ?_
    simp only [exs] at q
    exact ⟨Hd, io, ro, st, l, rs, PO.then q fun ro1 st1 σ1 Hd1 io1 H1 e1 l1 rs1 q1 => ⟨Hd1, io1, ro1, st1, l1, rs1, q1⟩⟩
theorem snd_pass : SndS G N .pass := by
  intro S Wx sc X x c f h
  have key : ∀ D σ H, tS S Wx G X.K .pass D σ H → tNext D σ H := fun D σ H ⟨Hd, io, ro, st, l, rs, q⟩ => by
    simp only [ex] at q
    exact q σ Hd io H Ext.refl l rs
  cases x <;> try (simp [chkS] at h; done)
  · rename_i e p
    cases e <;> try (simp [chkS] at h; done)
    rename_i k _ _
    cases k <;> try (simp [chkS] at h; done)
    exact PSimp ps_doc key
  · exact PSimp ps_pass key
theorem snd_brk : SndS G N .brk := by
  intro S Wx sc X x c f h
  cases x <;> try (simp [chkS] at h; done)
  exact PSimp ps_break fun D σ H ⟨Hd, io, ro, st, l, rs, q⟩ => by
    simp only [ex] at q
    exact q σ Hd io H Ext.refl l rs
theorem snd_cnt : SndS G N .cnt := by
  intro S Wx sc X x c f h
  cases x <;> try (simp [chkS] at h; done)
  exact PSimp ps_continue fun D σ H ⟨Hd, io, ro, st, l, rs, q⟩ => by
    simp only [ex] at q
    exact q σ Hd io H Ext.refl l rs
theorem snd_retN : SndS G N .retN := by
  intro S Wx sc X x c f h
  cases x <;> try (simp [chkS] at h; done)
  rename_i v p
  cases v with
  | some _ => simp [chkS] at h
  | none =>
    refine PSimp ps_retN fun D σ H ⟨Hd, io, ro, st, l, rs, q⟩ => ?_
    simp only [ex] at q
    exact q .non Hd io H Ext.refl l .non
theorem setRo_ok {K : PySem.W.Frag} {Hd : Hp} {io : List Addr} {H : Hp} {D : Ends} {ro : Ro} {i : Nat} {w : W} {v : V} {st : Store} {σ : L2.St} (q : PO K S Wx Hd io H D (setRo ro i w st)) (l : Rl K Hd io st H) (rs : RelS K Hd io ro σ) (r : RelW K Hd io w v) : D.nx (σ.set i (some v)) H := by
  unfold setRo at q
  split at q
  · exact q _ Hd io H Ext.refl l (rs.set i r)
  · exact q.elim
theorem snd_set (i : Nat) (e : M) : SndS G N (.set i e) := by
  intro S Wx sc X x c f h
  cases x <;> try (simp [chkS] at h; done)
  rename_i ts v p
  cases ts with
  | nil => simp [chkS] at h
  | cons t ts =>
    cases ts with
    | cons _ _ => cases t <;> simp [chkS] at h
    | nil =>
      cases t <;> try (simp [chkS] at h; done)
      rename_i x px
      simp only [chkS, Bool.and_eq_true, decide_eq_true_eq, Bool.or_eq_true, Bool.not_eq_true'] at h
      obtain ⟨⟨⟨h1, h2⟩, h3⟩, h4⟩ := h
      obtain ⟨o1, o2⟩ := own_of c f h2
      have hN : X.N.Nodup := by rw [c.hN]; exact c.nd
      have hi : X.N[i]? = some x := by rw [c.hN]; exact h1
      have key : ∀ D σ H, tS S Wx G X.K (.set i e) D σ H → tAsg (tM S Wx G X.K e) (gName i) D σ H := fun D σ H ⟨Hd, io, ro, st, l, rs, q⟩ => by
        simp only [ex] at q
        exact ⟨Hd, io, ro, st, l, rs, PO.bind rs q fun v H1 Hd1 io1 w st1 e1 l1 rs1 r1 q => setRo_ok q l1 rs1 r1⟩
      cases hsw : swB sc v x px with
      | false =>
        refine PSimp (ps_set hN hi o1 (sound G N e S Wx sc X v c h3).1 ?_ o2) key
        cases v <;> first | rfl | skip
        · rename_i elt gens scope q
          have kx : X.env.kindOf x = sc.names.lookup x := by unfold Env.kindOf; rw [c.hsc]
          unfold swapsWith
          simp only [kx]
          have : (sc.names.lookup x == some NameKind.local && px.line == q.line && !(scope.names.any fun (n, k) => n == x && (k == .local || k == .cell))) = false := by
            unfold swB at hsw
            by_cases z : sc.names.lookup x = some .local
            · rw [z] at hsw ⊢; simpa using hsw
            · have : (sc.names.lookup x == some NameKind.local) = false := by simpa using z
              rw [this]; rfl
          show pure _ = pure false
          congr 1
          rw [Bool.and_assoc, Bool.and_assoc, ← Bool.and_assoc (sc.names.lookup x == some NameKind.local)]
          show (_ && (_ && _ && _)) = false
          rw [show (List.lookup x sc.names == some NameKind.local && (px.line == (Expr.ListComp elt gens scope q).pos.line) && !(scope.names.any fun (n, k) => n == x && (k == .local || k == .cell))) = false from this]
          exact Bool.and_false _
        · cases hsw
        · cases hsw
      | true =>
        have h4 : isLC v = true := by
          rcases h4 with z | z
          · rw [z] at hsw; cases hsw
          · exact z
        cases v <;> try (cases h4; done)
        rename_i elt gens scope q
        cases e <;> try (simp [chk] at h3; done)
        rename_i own t it cm em
        obtain ⟨tg, iter, ifs, rfl, P⟩ := lc_parts own t it cm em (soundI G N it) (sound G N cm) (sound G N em) S Wx sc X c h3
        unfold swB at hsw
        simp only [Bool.and_eq_true, decide_eq_true_eq, Bool.not_eq_true'] at hsw
        refine PSimp (ps_setLc c.calm hN hi (by rw [c.hsc]; exact hsw.1.1) (sw_true (by rw [c.hsc]; exact f.kind) (by rw [c.hsc]; exact hsw.1.1) hsw.1.2 hsw.2) P.pi P.blk P.pg P.pt P.pe P.fold) fun D σ H q => ?_
        exact P.imp σ H _ (key D σ H q)
end Ev
set_option Elab.async false
set_option linter.all false
set_option maxRecDepth 100000
set_option maxHeartbeats 1000000
namespace Ev
open PySem PySem.Spec PyProof.Rows L2
/-! ### raise, try .. except X as e: y = e -/
section
variable {K : PySem.W.Frag} {S : IsX} {Wx : WX} {Hd H : Hp} {io : List Addr} {Dn : Ends}
theorem PO.keepAll {ws : List W} {vs : List V} {st : Store} {ro : Ro} {f : List D → Store → O} (l : Rl K Hd io st H) (r : RelWs K Hd io ws vs) (h : PO K S Wx Hd io H Dn ((keepAll ws st).o ro f)) :
    ∃ ds Hd' st', Ext Hd io H Hd' io H ∧ Rl K Hd' io st' H ∧ RelDs K Hd' vs ds ∧ PO K S Wx Hd' io H Dn (f ds st') := by
  cases h1 : Ev.keepAll ws st with
  | bad => rw [h1] at h; exact h.elim
  | exc x s => exact (keepAll_noexc h1).elim
  | ok d st1 =>
    rw [h1] at h
    obtain ⟨Hd1, e1, l1, r1⟩ := keepAll_ok l r h1
    exact ⟨d, Hd1, st1, e1, l1, r1, PO.ext e1 h⟩
end
variable {G : Gt} {N : List Str} {S : IsX} {Wx : WX} {sc : Scope} {X : Cx}
theorem sounds (G : Gt) (N : List Str) {m : Ms} : SndA G N m := by
  intro S Wx sc X es c h
  induction es generalizing m with
  | nil =>
    cases m with
    | nil => exact snds (m := .nil) trivial S Wx sc X [] c h
    | cons _ _ => simp [chks] at h
  | cons e es ih =>
    cases m with
    | nil => simp [chks] at h
    | cons m r =>
      simp only [chks, Bool.and_eq_true] at h
      refine PAimp (pa_cons (sound G N m S Wx sc X _ c h.1.2).1 (ih h.2) (star_plain h.1.1)) fun σ H Q ⟨Hd, io, ro, st, l, rs, q⟩ => ?_
      simp only [evs] at q
      refine ⟨Hd, io, ro, st, l, rs, PX.bind q fun v H1 Hd1 io1 w st1 e1 l1 r1 q => ?_⟩
      exact ⟨Hd1, io1, ro, st1, l1, rs.mono e1, PX.bind q fun vs H2 Hd2 io2 ws st2 e2 l2 r2 q => PX.here q l2 (.cons (r1.mono e2) r2)⟩
theorem snd_raise (y : Str) (es : Ms) : SndS G N (.raise_ y es) := by
  intro S Wx sc X x c f h
  unfold chkS at h
  split at h <;> first | (cases h; done) | (rename_i q; cases q; done) | skip
  rename_i _ _ y' es' x px a r p2 p heq
  cases heq
  simp only [Bool.and_eq_true, decide_eq_true_eq] at h
  obtain ⟨⟨rfl, hg⟩, h1⟩ := h
  obtain ⟨g1, g2⟩ := gl_of c hg
  have st := chks_stars h1
  have st' := st
  simp only [noStars, Bool.and_eq_true] at st'
  have hS := c.hS
  subst hS
  cases hm : G.mke x with
  | none =>
    refine PSimp (t := fun _ _ _ => False) ⟨fun _ _ _ _ _ _ h => h.elim⟩ fun D σ H ⟨Hd, io, ro, st, l, rs, q⟩ => ?_
    simp only [ex, hm] at q
    exact q
  | some k =>
    cases k with
    | own =>
      refine PSimp (ps_raise c.calm c.tk (pmk_own0 (ta := tMs (isXv X.K) Wx G X.K es) (fun _ _ _ _ => tMs_mono) (c.mke _ _ hm) g1 (sounds G N _ Wx _ X _ c h1) g2 (star_plain st'.1) (star_none st'.2))) fun D σ H ⟨Hd, io, ro, st, l, rs, q⟩ => ?_
      simp only [ex, hm] at q
      refine ⟨Hd, io, ro, st, l, rs, PO.bind (Rel := RelWs X.K) rs q fun vs H1 Hd1 io1 ws st1 e1 l1 rs1 r1 q => ?_⟩
      obtain ⟨ds, Hd2, st2, e2, l2, r2, q⟩ := PO.keepAll l1 r1 q
      simp only [mkD] at q
      split at q
      · rename_i hz
        exact ⟨by rw [r2.length]; exact hz, q _ _ _ _ _ _ Ext.refl l2 (rs1.mono e2) ⟨rfl, .inl ⟨rfl, rfl, rfl⟩⟩⟩
      · exact q.elim
    | ini f fs =>
      refine PSimp (ps_raise c.calm c.tk (pmk_ini (ta := tMs (isXv X.K) Wx G X.K es) (fun _ _ _ _ => tMs_mono) (c.mke _ _ hm) c.rm g1 (sounds G N _ Wx _ X _ c h1) g2 (star_plain st'.1) (star_none st'.2))) fun D σ H ⟨Hd, io, ro, st, l, rs, q⟩ => ?_
      simp only [ex, hm] at q
      refine ⟨Hd, io, ro, st, l, rs, PO.bind (Rel := RelWs X.K) rs q fun vs H1 Hd1 io1 ws st1 e1 l1 rs1 r1 q => ?_⟩
      obtain ⟨ds, Hd2, st2, e2, l2, r2, q⟩ := PO.keepAll l1 r1 q
      simp only [mkD] at q
      split at q
      · rename_i hz
        have hl : vs.length = (f :: fs).length := by rw [r2.length]; exact hz.1
        refine ⟨by rw [r2.length]; exact hz.2, hl, fun d nd => ?_⟩
        rw [zip_rev hl.symm]
        obtain ⟨l3, e3⟩ := l2.newD nd (.xd ((f :: fs).reverse.zip vs.reverse))
        exact q _ _ _ _ _ _ e3 l3 ((rs1.mono e2).mono e3) ⟨rfl, .inr ⟨d, vs.reverse, rfl, upd_same, by simp only [List.length_reverse]; exact hl.symm, r2.reverse.mono e3.hd⟩⟩
      · exact q.elim
theorem ctx_tr {pn : List (Addr × Obj)} {xe : Value → Shared → Prop} {W : WX} (c : CtxOk G N S Wx sc X) (tk : Takes (X.tr pn xe) W) : CtxOk G N S W sc (X.tr pn xe) :=
  { hN := c.hN, nd := c.nd, hsc := c.hsc, calm := c.calm, tk := tk, gd := c.gd, room := c.room, con := c.con, blt := c.blt, fp := c.fp, fs := c.fs, rm := c.rm, hS := c.hS, ini := c.ini, meth := c.meth, cfl := c.cfl, tix := c.tix, mke := c.mke, sub := c.sub, exm := c.exm, fld := c.fld }
theorem fnOf_tr {pn : List (Addr × Obj)} {xe : Value → Shared → Prop} (f : FnOf sc X) (ps : PassesOwn (model X.prog X.w) X.A X.env xe) : FnOf sc (X.tr pn xe) :=
  ⟨f.fn, ps, f.kind, f.stk, f.frm, f.noex⟩
theorem snd_tryk (b : Ss) (y : Str) (i j : Nat) (hb : SndSs G N b) : SndS G N (.tryk b y i j) := by
  intro S Wx sc X x c f h
  unfold chkS at h
  split at h <;> first | (cases h; done) | (rename_i q; cases q; done) | skip
  rename_i _ _ b' y' i' j' body z np n v vp m mp ap ep p heq
  cases heq
  simp only [Bool.and_eq_true, decide_eq_true_eq, Bool.not_eq_true'] at h
  obtain ⟨⟨⟨⟨⟨⟨⟨⟨⟨rfl, hz⟩, hi⟩, hl⟩, hd1⟩, hd2⟩, rfl⟩, hj⟩, hv⟩, hbd⟩ := h
  obtain ⟨z1, z2⟩ := gl_of c hz
  obtain ⟨o1, o2⟩ := own_of c f hv
  have hS := c.hS
  subst hS
  by_cases hy : G.exm z z = some true
  · obtain ⟨hm, _⟩ := c.exm _ _ _ hy
    have hN : X.N.Nodup := by rw [c.hN]; exact c.nd
    have hi' : X.N[i]? = some m := by rw [c.hN]; exact hi
    have hj' : X.N[j]? = some v := by rw [c.hN]; exact hj
    have hk : X.env.kindOf m = some .local := by unfold Env.kindOf; rw [c.hsc]; exact hl
    refine PSimp (ps_try_v (i := i) (c := .ref (He.ga X.K z)) (tb := fun W => tSs (isXv X.K) W G X.K b) (ts := tSeq (tAsg (tVar i) (gName j)) tNext) f.stk f.frm f.noex hN hi' hk ⟨z1, z2, .inl hm⟩ c.tk (fun W pn xe tk ps => hb _ W _ _ body (ctx_tr c tk) (fnOf_tr f ps) hbd)
      (fun a pn => pss_cons (ps_set (X := X.suite a pn) hN hj' o1 (pe_var (X := X.suite a pn) hi' (.inl hk) hd1 hd2) swaps_name o2) pss_nil)) fun D σ H ⟨Hd, io, ro, st, l, rs, q⟩ => ?_
    simp only [ex] at q
    refine ⟨Hd, io, ro, st, l, rs, ?_⟩
    cases ho : exs G b ro st with
    | bad => rw [ho] at q; exact q
    | nx ro st => rw [ho] at q; simp only [O.tryk, if_pos hy] at q; exact q
    | ret w st => rw [ho] at q; simp only [O.tryk, if_pos hy] at q; exact q
    | brk ro st => rw [ho] at q; simp only [O.tryk, if_pos hy] at q; exact q
    | cnt ro st => rw [ho] at q; simp only [O.tryk, if_pos hy] at q; exact q
    | exc x ro1 st1 =>
      rw [ho] at q
      simp only [O.tryk, if_pos hy] at q
      intro σ' cls d Hd' io' H' e1 l1 rs1 hx
      have hx0 := hx
      obtain ⟨hcls, hx⟩ := hx
      cases hm2 : G.exm x.cls z with
      | none => rw [hm2] at q; exact q.elim
      | some bb =>
        rw [hm2] at q
        obtain ⟨_, hq⟩ := c.exm _ _ _ hm2
        refine ⟨bb, by rw [hcls]; exact hq, fun hb1 a na => ?_, fun hb0 => ?_⟩
        · subst hb1
          dsimp only at q
          split at q
          · rename_i hij
            have rel : ∃ Hd2, Ext Hd' io' H' Hd2 io' (upd H' a (exq cls d a)) ∧ Rl X.K Hd2 io' st1 (upd H' a (exq cls d a)) ∧ RelD X.K Hd2 (.ref a) (.exv x.cls x.ks x.xs) := by
              obtain ⟨l2, e2⟩ := l1.newD na (exq cls d a)
              refine ⟨_, e2, l2, ?_⟩
              subst hcls
              rcases hx with ⟨rfl, h1, h2⟩ | ⟨dx, vs, rfl, h1, h2, h3⟩
              · rw [h1, h2]; exact .exv0 upd_same
              · exact .exv upd_same (e2.hd _ _ h1) h2 (h3.mono e2.hd)
            obtain ⟨Hd2, e2, l2, r2⟩ := rel
            have hil : i < σ'.length := by rw [← rs1.len]; exact hij.1
            refine ⟨.ref a, by rw [List.getElem?_set_self hil], ?_⟩
            refine q _ _ _ _ (e1.trans e2) l2 ?_
            exact (((rs1.mono e2).set i (w := .d _) r2).set j (w := .d _) r2).setNone i
          · exact q.elim
        · subst hb0
          exact q σ' cls d Hd' io' H' e1 l1 rs1 hx0
  · refine PSimp (t := fun _ _ _ => False) ⟨fun _ _ _ _ _ _ h => h.elim⟩ fun D σ H ⟨Hd, io, ro, st, l, rs, q⟩ => ?_
    simp only [ex] at q
    cases ho : exs G b ro st <;> (rw [ho] at q; simp only [O.tryk, if_neg hy] at q; exact q)
end Ev
set_option Elab.async false
set_option linter.all false
set_option maxRecDepth 100000
set_option maxHeartbeats 1000000
namespace Ev
open PySem PySem.Spec PyProof.Rows L2
variable {G : Gt} {N : List Str} {S : IsX} {Wx : WX} {sc : Scope} {X : Cx}
theorem snd_expr (e : M) : SndS G N (.expr e) := by
  intro S Wx sc X x c f h
  cases x <;> try (simp [chkS] at h; done)
  rename_i v p
  simp only [chkS, Bool.and_eq_true] at h
  refine PSimp (ps_expr (sound G N e S Wx sc X v c h.1).1 (noComp_sw h.2)) fun D σ H ⟨Hd, io, ro, st, l, rs, q⟩ => ?_
  simp only [ex] at q
  exact ⟨Hd, io, ro, st, l, rs, PO.bind rs q fun v H1 Hd1 io1 w st1 e1 l1 rs1 r1 q => q σ Hd1 io1 H1 Ext.refl l1 rs1⟩
theorem snd_ret (e : M) : SndS G N (.ret e) := by
  intro S Wx sc X x c f h
  cases x <;> try (simp [chkS] at h; done)
  rename_i v p
  cases v with
  | none => simp [chkS] at h
  | some v =>
    simp only [chkS] at h
    refine PSimp (ps_ret (sound G N e S Wx sc X v c h).1) fun D σ H ⟨Hd, io, ro, st, l, rs, q⟩ => ?_
    simp only [ex] at q
    exact ⟨Hd, io, ro, st, l, rs, PO.bind rs q fun v H1 Hd1 io1 w st1 e1 l1 rs1 r1 q => q v Hd1 io1 H1 Ext.refl l1 r1⟩
theorem snd_iff (e : M) (a b : Ss) (ha : SndSs G N a) (hb : SndSs G N b) : SndS G N (.iff e a b) := by
  intro S Wx sc X x c f h
  cases x <;> try (simp [chkS] at h; done)
  simp only [chkS, Bool.and_eq_true] at h
  refine PSimp (ps_if (sound G N e S Wx sc X _ c h.1.1).2.1 (ha S Wx sc X _ c f h.1.2) (hb S Wx sc X _ c f h.2)) fun D σ H ⟨Hd, io, ro, st, l, rs, q⟩ => ?_
  simp only [ex] at q
  refine ⟨Hd, io, ro, st, l, rs, PO.tst rs q fun k H1 Hd1 io1 st1 e1 l1 rs1 q => ?_⟩
  cases k with
  | true => exact ⟨Hd1, io1, ro, st1, l1, rs1, q⟩
  | false => exact ⟨Hd1, io1, ro, st1, l1, rs1, q⟩
theorem fm_eq {ts : List Expr} {line : Nat} {f : Expr → Option Str} (ky : ∀ x, X.env.kindOf x = sc.names.lookup x) (hf : ∀ id pos, f (.Name id pos) = if X.env.kindOf id == some .local && pos.line == line then some id else none) (hn : ∀ e, (∀ id pos, e ≠ .Name id pos) → f e = none) :
    ts.filterMap f = swNames sc line ts := by
  unfold swNames
  congr 1
  funext e
  cases e <;> try (exact hn _ (fun _ _ => nofun))
  rename_i x px
  rw [hf, ky]
  by_cases z : sc.names.lookup x = some .local
  · simp [z]
  · have : (sc.names.lookup x == some NameKind.local) = false := by simpa using z
    simp [z]
theorem no_swap {tg v : Expr} (c : CtxOk G N S Wx sc X) (f : FnOf sc X) (h : noSwap sc tg v = true) : swappedStores [tg] v X.env = pure none ∧ isTupE tg = true := by
  have ky : ∀ x, X.env.kindOf x = sc.names.lookup x := fun x => by unfold Env.kindOf; rw [c.hsc]
  cases tg <;> try (cases v <;> simp [noSwap, isTupE] at h; done)
  refine ⟨?_, rfl⟩
  rename_i ts k p
  cases v <;> try rfl
  rename_i vs k2 p2
  simp only [noSwap, Bool.or_eq_true, decide_eq_true_eq] at h
  unfold swappedStores
  simp only []
  rw [fm_eq (sc := sc) (X := X) (line := (ts.head?.map (·.pos.line)).getD 0) ky (fun _ _ => rfl) (fun e he => by cases e <;> first | rfl | exact absurd rfl (he _ _))]
  split
  · rfl
  · rename_i h1
    split
    · rfl
    · split
      · rfl
      · rename_i h3
        rcases h with (h | h) | h
        · exfalso
          simp only [Bool.or_eq_true, not_or, bne_iff_ne, ne_eq, Decidable.not_not] at h1
          exact h h1.1.2.symm
        · exfalso
          simp only [Bool.or_eq_true, not_or, bne_iff_ne, ne_eq, Decidable.not_not] at h3
          exact h h3.1
        · rw [if_pos h]
theorem swapsSole {tg v : Expr} {l : Nat} {env : Env} (h : notComp v = true) : swapsWithSole [tg] v l env = pure false := noComp_sw h
theorem snd_unp (t : T) (e : M) : SndS G N (.unp t e) := by
  intro S Wx sc X x c f h
  cases x <;> try (simp [chkS] at h; done)
  rename_i ts v p
  cases ts with
  | nil => simp [chkS] at h
  | cons tg ts =>
    cases ts with
    | cons _ _ => simp [chkS] at h
    | nil =>
      simp only [chkS, Bool.and_eq_true] at h
      obtain ⟨⟨⟨h1, h2⟩, h3⟩, h4⟩ := h
      obtain ⟨n1, n2⟩ := no_swap c f h3
      refine PSimp (ps_asg (sound G N e S Wx sc X v c h2).1 (pg_ok c.hN c.nd c.calm c.hsc f.fn t tg h1) (swapsSole h4) n1 ?_) fun D σ H ⟨Hd, io, ro, st, l, rs, q⟩ => ?_
      · cases tg <;> first | rfl | (cases n2; done)
      · simp only [ex] at q
        refine ⟨Hd, io, ro, st, l, rs, PO.bind rs q fun v H1 Hd1 io1 w st1 e1 l1 rs1 r1 q => ?_⟩
        obtain ⟨d, Hd2, st2, e2, l2, r2, q, _⟩ := PO.keep l1 r1 q
        cases ha : asgT t d ro with
        | none => rw [ha] at q; exact q.elim
        | some ro1 =>
          rw [ha] at q
          exact ⟨Hd2, io1, ro, d, ro1, l2.sub, r2, rs1.mono e2, ha, fun σ' rs' _ => q σ' Hd2 io1 H1 Ext.refl l2 rs'⟩
theorem par_sw {x y : Str} {px py pt pt2 : Pos} {k k2 : Nat} {u v : Expr} (c : CtxOk G N S Wx sc X) (f : FnOf sc X) (hxy : x ≠ y) (hx : sc.names.lookup x = some .local) (hy : sc.names.lookup y = some .local) (hl : (py.line == px.line) = true) (su : noStar u = true) (sv : noStar v = true)
    (h1 : ([u, v].all (foldedForSure 8)) = false) (h2 : ([u, v].all (constantsAlone 8)) = false) : swappedStores [.Tuple [.Name x px, .Name y py] k pt] (.Tuple [u, v] k2 pt2) X.env = pure (some [x, y]) := by
  have ky : ∀ x, X.env.kindOf x = sc.names.lookup x := fun x => by unfold Env.kindOf; rw [c.hsc]
  have hb : X.env.blockKind = .function := by unfold Env.blockKind; rw [c.hsc, f.kind]; rfl
  have ns : ([u, v].any fun | .Starred .. => true | _ => false) = false := by
    cases u <;> cases v <;> first | rfl | (cases su; done) | (cases sv; done)
  have nm : swNames sc ((([.Name x px, .Name y py] : List Expr).head?.map (·.pos.line)).getD 0) [.Name x px, .Name y py] = [x, y] := by
    have hl' : py.line = px.line := by simpa using hl
    simp [swNames, hx, hy, hl', Expr.pos]
  have hd : ([x, y].eraseDups) = [x, y] := by
    have : (y == x) = false := by simpa using fun z : y = x => hxy z.symm
    rw [List.eraseDups_cons, List.filter_cons, this]
    rfl
  unfold swappedStores
  simp only []
  rw [fm_eq (sc := sc) (X := X) (line := (([.Name x px, .Name y py] : List Expr).head?.map (·.pos.line)).getD 0) ky (fun _ _ => rfl) (fun e he => by cases e <;> first | rfl | exact absurd rfl (he _ _))]
  rw [nm, hd, h1, h2, hb]
  split
  · rename_i z; simp at z
  · split
    · rename_i z
      exfalso
      have : ([u, v].any fun | .Starred .. => true | _ => false) = true := z
      rw [ns] at this; cases this
    · rfl
theorem snd_par (i j : Nat) (a b : M) : SndS G N (.par i j a b) := by
  intro S Wx sc X x c f h
  cases x <;> try (simp [chkS] at h; done)
  rename_i ts v p
  match ts, v, h with
  | [.Tuple [.Name x px, .Name y py] kt pt], .Tuple [u, v] k2 pt2, h =>
    simp only [chkS, Bool.and_eq_true, decide_eq_true_eq, Bool.not_eq_true'] at h
    obtain ⟨⟨⟨⟨⟨⟨⟨⟨⟨⟨⟨h1, h2⟩, h3⟩, h4⟩, h5⟩, h6⟩, h7⟩, h8⟩, h9⟩, h10⟩, h11⟩, h12⟩ := h
    have hxy : x ≠ y := fun z => by
      subst z
      exact h3 (nodup_ix c.nd h1 h2)
    have hN : X.N.Nodup := by rw [c.hN]; exact c.nd
    refine PSimp (ps_par c.calm hN (by rw [c.hN]; exact h1) (by rw [c.hN]; exact h2) h3 (by rw [c.hsc]; exact h4) (by rw [c.hsc]; exact h5)
      (pa_cons (sound G N a S Wx sc X u c h11).1 (pa_cons (sound G N b S Wx sc X v c h12).1 pa_nil (star_plain h8)) (star_plain h7)) (par_sw c f hxy h4 h5 h6 h7 h8 h9 h10) rfl) fun D σ H ⟨Hd, io, ro, st, l, rs, q⟩ => ?_
    simp only [ex] at q
    refine ⟨Hd, io, ro, st, l, rs, PO.bind rs q fun v H1 Hd1 io1 w st1 e1 l1 rs1 r1 q => ?_⟩
    refine ⟨Hd1, io1, ro, st1, l1, rs1, PO.bind rs1 q fun u H2 Hd2 io2 w2 st2 e2 l2 rs2 r2 q => ?_⟩
    split at q
    · exact ⟨_, _, rfl, q _ Hd2 io2 H2 Ext.refl l2 ((rs2.set i (r1.mono e2)).set j r2)⟩
    · exact q.elim
/-! ### three names stored at once -/
def tPar3 (i j k : Nat) (ta : TA) : TS := fun D σ H => ta σ H fun vs H1 => ∃ u v w, vs = [u, v, w] ∧ D.nx (((σ.set i (some u)).set j (some v)).set k (some w)) H1
theorem Vals.three {X : Cx} {u v w : V} {us : List Value} (h : Vals [u, v, w] us) : ∃ a b c, us = [a, b, c] ∧ L2.RelV u a ∧ L2.RelV v b ∧ L2.RelV w c := by
  cases h with
  | cons p h => cases h with
    | cons q h => cases h with
      | cons r h => cases h; exact ⟨_, _, _, rfl, p, q, r⟩
section
variable {X : Cx} {i j k : Nat} {x y z : Str} {a b c : Expr} {ta : TA} {px py pz pt pos : Pos} {kt k2 : Nat} {pt2 : Pos}
theorem ps_par3 (hc : X.calm = true) (hN : X.N.Nodup) (hi : X.N[i]? = some x) (hj : X.N[j]? = some y) (hk : X.N[k]? = some z) (hij : i ≠ j ∧ i ≠ k ∧ j ≠ k)
    (lx : X.env.scope.names.lookup x = some .local) (ly : X.env.scope.names.lookup y = some .local) (lz : X.env.scope.names.lookup z = some .local) (args : PA X [a, b, c] ta)
    (hw : swappedStores [.Tuple [.Name x px, .Name y py, .Name z pz] kt pt] (.Tuple [a, b, c] k2 pt2) X.env = pure (some [x, y, z]))
    (hs : swapsWithSole [.Tuple [.Name x px, .Name y py, .Name z pz] kt pt] (.Tuple [a, b, c] k2 pt2) pos.line X.env = pure false) :
    PS X (.Assign [.Tuple [.Name x px, .Name y py, .Name z pz] kt pt] (.Tuple [a, b, c] k2 pt2) pos) (tPar3 i j k ta) := by
  refine ⟨fun pins s0 sg H D I want => ?_⟩
  rw [exec_Assign_arm]; refine wpAny_bind (wpAny_standAt ?_); rw [hs]; refine wpAny_bind (wpAny_pure ?_); rw [if_neg (by decide)]
  refine wpAny_bind (Tuple_ (thn (args.run _ pins s0 sg H _ I want) fun us s1 ⟨vs, H1, J, rel, q⟩ => ?_))
  obtain ⟨u, v, w, rfl, q⟩ := q
  obtain ⟨u', v', w', rfl, r1, r2, r3⟩ := Vals.three (X := X) rel
  refine wpAny_newObj_type ?_ (show 3 ≤ sizeLine by decide)
  have J2 : L2.Inv X pins sg H1 { s1 with heap := s1.heap.push { cls := .type "tuple", data := .seq [u', v', w'].toArray } } := J.kept (t' := s1.toks) fun _ _ e => Heap.get?_push_of_some _ e
  rw [hw]; refine wpAny_bind (wpAny_pure ?_)
  show wpAny (model X.prog X.w) X.A (do rule "assign.swapped-stores"; let got ← unpackItems (.ref s1.heap.objs.size) 3 none; assignInOrder [fun v => bindName X.env z v, fun v => bindName X.env y v, fun v => bindName X.env x v] got.reverse; pure Flow.next) _ _ _
  refine wpAny_bind (wpAny_rule (wpAny_bind (unpackItems_tuple (items := #[u', v', w']) (J.ok.hd hc) (IsTup.new s1.heap _) fun h' keep => ?_)))
  have J3 := J2.kept (h' := h') (t' := s1.toks) fun n o e => keep n o (Nat.ne_of_lt (Heap.lt_size e)) e
  show wpAny _ _ (assignInOrder [fun v => bindName X.env z v, fun v => bindName X.env y v, fun v => bindName X.env x v] [w', v', u'] >>= fun _ => pure Flow.next) _ _ _
  refine wpAny_bind (assignInOrder_cons (wpAny_bindName (store_ok J3 hN hk (.inl lz) r3 (fun s2 J4 => ?_) (.inr lz))))
  refine assignInOrder_cons (wpAny_bindName (store_ok J4 hN hj (.inl ly) r2 (fun s3 J5 => ?_) (.inr ly)))
  refine assignInOrder_cons (wpAny_bindName (store_ok J5 hN hi (.inl lx) r1 (fun s4 J6 => assignInOrder_nil (wpAny_pure ?_)) (.inr lx)))
  have e : ((sg.set k (some w)).set j (some v)).set i (some u) = ((sg.set i (some u)).set j (some v)).set k (some w) := by
    rw [List.set_comm (some w) (some v) (fun z => hij.2.2 z.symm), List.set_comm (some w) (some u) (fun z => hij.2.1 z.symm), List.set_comm (some v) (some u) (fun z => hij.1 z.symm)]
  rw [e] at J6
  exact ⟨_, H1, J6, q⟩
end
theorem par3_sw {x y z : Str} {px py pz pt pt2 : Pos} {k k2 : Nat} {u v w : Expr} (c : CtxOk G N S Wx sc X) (f : FnOf sc X) (hd : x ≠ y ∧ x ≠ z ∧ y ≠ z) (hx : sc.names.lookup x = some .local) (hy : sc.names.lookup y = some .local) (hz : sc.names.lookup z = some .local) (hl : (py.line == px.line) = true) (hl2 : (pz.line == px.line) = true) (su : noStar u = true) (sv : noStar v = true) (sw : noStar w = true)
    (h1 : ([u, v, w].all (foldedForSure 8)) = false) (h2 : ([u, v, w].all (constantsAlone 8)) = false) : swappedStores [.Tuple [.Name x px, .Name y py, .Name z pz] k pt] (.Tuple [u, v, w] k2 pt2) X.env = pure (some [x, y, z]) := by
  have ky : ∀ x, X.env.kindOf x = sc.names.lookup x := fun x => by unfold Env.kindOf; rw [c.hsc]
  have hb : X.env.blockKind = .function := by unfold Env.blockKind; rw [c.hsc, f.kind]; rfl
  have st : ∀ e : Expr, noStar e = true → (match e with | .Starred .. => true | _ => false) = false := fun e h => by cases e <;> first | rfl | (cases h; done)
  have ns : ([u, v, w].any fun | .Starred .. => true | _ => false) = false := by
    rw [List.any_cons, List.any_cons, List.any_cons, List.any_nil, st u su, st v sv, st w sw]; rfl
  have nm : swNames sc ((([.Name x px, .Name y py, .Name z pz] : List Expr).head?.map (·.pos.line)).getD 0) [.Name x px, .Name y py, .Name z pz] = [x, y, z] := by
    have a1 : py.line = px.line := by simpa using hl
    have a2 : pz.line = px.line := by simpa using hl2
    simp [swNames, hx, hy, hz, a1, a2, Expr.pos]
  have dd : ([x, y, z].eraseDups) = [x, y, z] := by
    have b1 : (y == x) = false := by simpa using fun q : y = x => hd.1 q.symm
    have b2 : (z == x) = false := by simpa using fun q : z = x => hd.2.1 q.symm
    have b3 : (z == y) = false := by simpa using fun q : z = y => hd.2.2 q.symm
    rw [List.eraseDups_cons, List.filter_cons, b1, List.filter_cons, b2]
    show x :: List.eraseDups [y, z] = _
    rw [List.eraseDups_cons, List.filter_cons, b3]
    rfl
  unfold swappedStores
  simp only []
  rw [fm_eq (sc := sc) (X := X) (line := (([.Name x px, .Name y py, .Name z pz] : List Expr).head?.map (·.pos.line)).getD 0) ky (fun _ _ => rfl) (fun e he => by cases e <;> first | rfl | exact absurd rfl (he _ _))]
  rw [nm, dd, h1, h2, hb]
  split
  · rename_i q; simp at q
  · split
    · rename_i q
      exfalso
      have : ([u, v, w].any fun | .Starred .. => true | _ => false) = true := q
      rw [ns] at this; cases this
    · rfl
theorem snd_par3 (i j k : Nat) (a b d : M) : SndS G N (.par3 i j k a b d) := by
  intro S Wx sc X x c f h
  cases x <;> try (simp [chkS] at h; done)
  rename_i ts v p
  match ts, v, h with
  | [.Tuple [.Name x px, .Name y py, .Name z pz] kt pt], .Tuple [u, v, w] k2 pt2, h =>
    simp only [chkS, Bool.and_eq_true, decide_eq_true_eq, Bool.not_eq_true'] at h
    obtain ⟨⟨⟨⟨⟨⟨⟨⟨⟨⟨⟨⟨⟨⟨h1, h2⟩, h3⟩, h4⟩, h5⟩, h6⟩, h7⟩, h8⟩, h9⟩, ⟨⟨s1, s2⟩, s3⟩⟩, h11⟩, h12⟩, h13⟩, h14⟩, h15⟩ := h
    have df : x ≠ y ∧ x ≠ z ∧ y ≠ z := ⟨fun q => by subst q; exact h4.1 (nodup_ix c.nd h1 h2), fun q => by subst q; exact h4.2.1 (nodup_ix c.nd h1 h3), fun q => by subst q; exact h4.2.2 (nodup_ix c.nd h2 h3)⟩
    have hN : X.N.Nodup := by rw [c.hN]; exact c.nd
    refine PSimp (ps_par3 c.calm hN (by rw [c.hN]; exact h1) (by rw [c.hN]; exact h2) (by rw [c.hN]; exact h3) h4 (by rw [c.hsc]; exact h5) (by rw [c.hsc]; exact h6) (by rw [c.hsc]; exact h7)
      (pa_cons (sound G N a S Wx sc X u c h13).1 (pa_cons (sound G N b S Wx sc X v c h14).1 (pa_cons (sound G N d S Wx sc X w c h15).1 pa_nil (star_plain s3)) (star_plain s2)) (star_plain s1)) (par3_sw c f df h5 h6 h7 h8 h9 s1 s2 s3 h11 h12) rfl) fun D σ H ⟨Hd, io, ro, st, l, rs, q⟩ => ?_
    simp only [ex] at q
    refine ⟨Hd, io, ro, st, l, rs, PO.bind rs q fun v1 H1 Hd1 io1 w1 st1 e1 l1 rs1 r1 q => ?_⟩
    refine ⟨Hd1, io1, ro, st1, l1, rs1, PO.bind rs1 q fun v2 H2 Hd2 io2 w2 st2 e2 l2 rs2 r2 q => ?_⟩
    refine ⟨Hd2, io2, ro, st2, l2, rs2, PO.bind rs2 q fun v3 H3 Hd3 io3 w3 st3 e3 l3 rs3 r3 q => ?_⟩
    split at q
    · exact ⟨_, _, _, rfl, q _ Hd3 io3 H3 Ext.refl l3 (((rs3.set i ((r1.mono e2).mono e3)).set j (r2.mono e3)).set k r3)⟩
    · exact q.elim
theorem put_rel {K : PySem.W.Frag} {Hd : Hp} {k : Key} {v : V} {d : D} (r : RelD K Hd v d) : ∀ {vs : List (Key × V)} {kvs : List (Key × D)}, RelKV K Hd vs kvs → RelKV K Hd (putK vs k v) (putD kvs k d) := by
  intro vs kvs h
  have any_ : (vs.any fun kv => decide (kv.1 = k)) = (kvs.any fun kv => decide (kv.1 = k)) := by
    induction h with
    | nil => rfl
    | cons hv _ ih => simp [ih]
  unfold putK putD
  rw [any_]
  by_cases z : (kvs.any fun kv => decide (kv.1 = k)) = true
  · rw [if_pos z, if_pos z]
    clear z any_
    induction h with
    | nil => exact .nil
    | @cons k' v' d' vs' ds' hv _ ih =>
      rw [List.map_cons, List.map_cons]
      by_cases e : k' = k
      · rw [if_pos e, if_pos e]; exact .cons r ih
      · rw [if_neg e, if_neg e]; exact .cons hv ih
  · rw [if_neg z, if_neg z]
    clear z any_
    induction h with
    | nil => exact .cons r .nil
    | cons hv _ ih => exact .cons hv ih
theorem RelKV.length {K : PySem.W.Frag} {Hd : Hp} : ∀ {vs : List (Key × V)} {kvs : List (Key × D)}, RelKV K Hd vs kvs → vs.length = kvs.length
  | _, _, .nil => rfl
  | _, _, .cons _ r => by rw [List.length_cons, List.length_cons, RelKV.length r]
theorem size6 {n : Nat} (h : n < 1000000) : n < sizeLine := Nat.lt_of_lt_of_le h (by rw [sizeLine_eq]; decide)
theorem snd_dput (o k v : M) : SndS G N (.dput o k v) := by
  intro S Wx sc X x c f h
  cases x <;> try (simp [chkS] at h; done)
  rename_i ts xv p
  match ts, h with
  | [.Subscript xo xk px], h =>
    simp only [chkS, Bool.and_eq_true] at h
    obtain ⟨⟨⟨⟨h1, h2⟩, h3⟩, h4⟩, h5⟩ := h
    refine PSimp (ps_dput (Nat.lt_of_le_of_lt (by omega) c.room) (sound G N o S Wx sc X _ c h1).1 (sound G N k S Wx sc X _ c h2).1 (sound G N v S Wx sc X _ c h3).1 (noComp_sw h4)) fun D σ H ⟨Hd, io, ro, st, l, rs, q⟩ => ?_
    simp only [ex] at q
    refine ⟨Hd, io, ro, st, l, rs, PO.bind rs q fun v H1 Hd1 io1 w st1 e1 l1 rs1 r1 q => ?_⟩
    refine ⟨Hd1, io1, ro, st1, l1, rs1, PO.bind rs1 q fun a H2 Hd2 io2 w2 st2 e2 l2 rs2 r2 q => ?_⟩
    refine ⟨Hd2, io2, ro, st2, l2, rs2, PO.bind rs2 q fun b H3 Hd3 io3 w3 st3 e3 l3 rs3 r3 q => ?_⟩
    obtain ⟨d, Hd4, st4, e4, l4, r4, q, _⟩ := PO.keep l3 ((r1.mono e2).mono e3) q
    have rs4 := rs3.mono e4
    cases w2 with
    | d _ => exact q.elim
    | cell n =>
      cases w3 with
      | cell _ => exact q.elim
      | d kd =>
        dsimp only at q
        cases h6 : st4[n]? with
        | none => rw [h6] at q; exact q.elim
        | some cc =>
          rw [h6] at q
          cases cc with
          | lst _ => exact q.elim
          | frz _ => exact q.elim
          | obj _ _ => exact q.elim
          | dic kvs =>
            cases h7 : keyOf kd with
            | none => rw [h7] at q; exact q.elim
            | some key =>
              rw [h7] at q
              dsimp only at q
              split at q
              · rename_i hz
                obtain ⟨pa, rfl, hp⟩ := r2.mono e3
                obtain ⟨hd, vs, hv, hr⟩ := l4.cel n pa _ hp h6
                have ky : b = kV key := keyOf_kV h7 r3
                obtain ⟨l5, e5⟩ := l4.write (o := .dK (putK vs key v)) (c := .dic (putD kvs key d)) hp ⟨hd, _, upd_same, put_rel r4 hr⟩ hd
                refine ⟨pa, _, rfl, .inl ⟨vs, key, hv, ky, by rw [hr.length]; exact size6 hz, rfl⟩, ?_⟩
                exact q σ Hd4 io3 _ e5 l5 (rs4.mono e5)
              · exact q.elim
theorem snd_app (o e : M) : SndS G N (.app o e) := by
  intro S Wx sc X x c f h
  cases x <;> try (simp [chkS] at h; done)
  rename_i xe p
  match xe, h with
  | .Call (.Attribute xo nm ap) [xa] [] cp, h =>
    simp only [chkS, Bool.and_eq_true, decide_eq_true_eq] at h
    obtain ⟨⟨⟨⟨⟨rfl, h1⟩, h2⟩, h3⟩, h4⟩, h5⟩ := h
    have s1 : starEach [xa] X.env = (false, eval xa X.env) :: starEach [] X.env := star_plain h3
    refine PSimp (ps_expr (pe_bm (T := "list") PySem.F.plainAttrs_list PySem.F.slot_list_append PySem.F.type_list_append mt_append (sound G N o S Wx sc X _ c h4).1 (pa_cons (sound G N e S Wx sc X _ c h5).1 pa_nil s1) (base_of h2)
      (by rw [starAll (by simp [noStars, h3])]; rfl) h1 s1 rfl) rfl) fun D σ H ⟨Hd, io, ro, st, l, rs, q⟩ => ?_
    simp only [ex] at q
    refine ⟨Hd, io, ro, st, l, rs, PO.bind rs q fun a H1 Hd1 io1 w st1 e1 l1 rs1 r1 q => ?_⟩
    split at q
    · rename_i hL
      have ty : ∃ n pa vs, w = .cell n ∧ a = .ref pa ∧ io1[n]? = some pa ∧ SqL X.K H1 pa vs := by
        unfold isLst at hL
        split at hL
        · rename_i n
          split at hL
          · rename_i ds hs
            obtain ⟨pa, rfl, hp⟩ := r1
            obtain ⟨_, vs, hv, _⟩ := l1.cel n pa _ hp hs
            exact ⟨n, pa, vs, rfl, rfl, hp, lq hv⟩
          · cases hL
        · cases hL
      obtain ⟨n, pa, vs, rfl, rfl, hp, hv⟩ := ty
      refine ⟨.inl ⟨rfl, vs, hv⟩, Hd1, io1, ro, st1, l1, rs1, PO.bind rs1 q fun b H2 Hd2 io2 w2 st2 e2 l2 rs2 r2 q => ?_⟩
      obtain ⟨d, Hd3, st3, e3, l3, r3, q, _⟩ := PO.keep l2 r2 q
      unfold appC at q
      dsimp only at q
      split at q
      · rename_i ds hs
        split at q
        · rename_i hz
          obtain ⟨pa', e', hp'⟩ := (show RelW X.K Hd1 io1 (.cell n) (.ref pa) from ⟨pa, rfl, hp⟩).mono (e2.trans e3)
          cases e'
          obtain ⟨hd, us, hu, hr⟩ := l3.cel n pa _ hp' hs
          obtain ⟨l4, e4⟩ := l3.write (o := .lst (us ++ [b])) (c := .lst (ds ++ [d])) hp' ⟨hd, _, upd_same, hr.append (.cons r3 .nil)⟩ hd
          exact ⟨pa, us, b, rfl, rfl, hu, by rw [hr.length]; exact size6 hz, q σ Hd3 io2 _ e4 l4 ((rs2.mono e3).mono e4)⟩
        · exact q.elim
      · exact q.elim
    · exact q.elim
theorem RelFs.put {K : PySem.W.Frag} {Hd : Hp} {io : List Addr} {f : Str} {v : V} {w : Ev.W} (r : RelW K Hd io w v) : ∀ {vs : List (Str × V)} {ws : List (Str × Ev.W)}, RelFs K Hd io vs ws → RelFs K Hd io (L2.putF f v vs) (putFW f w ws)
  | _, _, .nil => .cons r .nil
  | _, _, .cons (f := g) h k => by
    simp only [L2.putF, putFW]
    by_cases z : g = f
    · rw [if_pos z, if_pos z]; exact .cons r k
    · rw [if_neg z, if_neg z]; exact .cons h (RelFs.put r k)
theorem RelFs.length {K : PySem.W.Frag} {Hd : Hp} {io : List Addr} : ∀ {vs : List (Str × V)} {ws : List (Str × Ev.W)}, RelFs K Hd io vs ws → vs.length = ws.length
  | _, _, .nil => rfl
  | _, _, .cons _ k => by simp [RelFs.length k]
theorem snd_fset (o : M) (f : Str) (v : M) : SndS G N (.fset o f v) := by
  intro S Wx sc X x c fo h
  cases x <;> try (simp [chkS] at h; done)
  rename_i ts xv p
  match ts, h with
  | [.Attribute xo nm px], h =>
    simp only [chkS, Bool.and_eq_true, decide_eq_true_eq] at h
    obtain ⟨⟨⟨rfl, h1⟩, h2⟩, h3⟩ := h
    refine PSimp (L2.ps_fld (sound G N o S Wx sc X _ c h1).1 (sound G N v S Wx sc X _ c h2).1 (noComp_sw h3)) fun D σ H ⟨Hd, io, ro, st, l, rs, q⟩ => ?_
    simp only [ex] at q
    refine ⟨Hd, io, ro, st, l, rs, PO.bind rs q fun y H1 Hd1 io1 w st1 e1 l1 rs1 r1 q => ?_⟩
    refine ⟨Hd1, io1, ro, st1, l1, rs1, PO.bind rs1 q fun a H2 Hd2 io2 w2 st2 e2 l2 rs2 r2 q => ?_⟩
    unfold fsetC at q
    split at q
    · rename_i n
      split at q
      · rename_i cc fs hs
        split at q
        · rename_i hz
          obtain ⟨C, hno⟩ := c.cfl _ _ hz.1
          obtain ⟨pa, rfl, hp⟩ := r2
          obtain ⟨hd, dx, vs, hins, how, hdx, hni, rfs⟩ := l2.cel n pa _ hp hs
          have ne : dx ≠ pa := fun z => hni (by rw [z]; exact List.mem_of_getElem? hp)
          obtain ⟨l3, e3⟩ := l2.write (o := .ins (He.ga X.K cc) dx (L2.putF nm y vs)) (c := .obj cc (putFW nm w fs)) hp ⟨hd, dx, _, upd_same, by rw [upd_ne ne]; exact how, hdx, hni, rfs.put (r1.mono e2)⟩ hd
          exact ⟨pa, _, dx, vs, rfl, hins, C, hno, by rw [rfs.length]; exact hz.2, q σ Hd2 io2 _ e3 l3 (rs2.mono e3)⟩
        · exact q.elim
      · exact q.elim
    · exact q.elim
/-! ### loops -/
theorem PO.turn {K : PySem.W.Frag} {Hd : Hp} {io : List Addr} {H : Hp} {D : Ends} {o : O} {g : Ro → Store → O} {Nx : L2.St → Hp → Prop} (h : PO K S Wx Hd io H D (o.turn g))
    (k : ∀ ro st σ Hd1 io1 H1, Ext Hd io H Hd1 io1 H1 → Rl K Hd1 io1 st H1 → RelS K Hd1 io1 ro σ → PO K S Wx Hd1 io1 H1 D (g ro st) → Nx σ H1) : PO K S Wx Hd io H { D with nx := Nx, ct := Nx, bk := D.nx } o := by
  cases o with
  | bad => exact h
  | nx ro st => exact fun σ a b c e l rs => k ro st σ a b c e l rs (PO.ext e h)
  | cnt ro st => exact fun σ a b c e l rs => k ro st σ a b c e l rs (PO.ext e h)
  | brk ro st => exact h
  | ret w st => exact h
  | exc x ro st => exact h
theorem snd_whl (n : Nat) (e : M) (b : Ss) (hb : SndSs G N b) : SndS G N (.whl n e b) := by
  intro S Wx sc X x c f h
  cases x <;> try (simp [chkS] at h; done)
  rename_i xe body orelse p
  cases orelse with
  | cons _ _ => simp [chkS] at h
  | nil =>
    simp only [chkS, Bool.and_eq_true] at h
    refine PSimp (ps_while f.pass (sound G N e S Wx sc X _ c h.1).2.1 (hb S Wx sc X _ c f h.2)) fun D σ H ⟨Hd, io, ro, st, l, rs, q⟩ => ?_
    simp only [ex] at q
    refine ⟨fun m σ H => ∃ Hd io ro st, Rl X.K Hd io st H ∧ RelS X.K Hd io ro σ ∧ PO X.K S Wx Hd io H D (whlRun (ev G e) (exs G b) m ro st), ⟨n, Hd, io, ro, st, l, rs, q⟩, fun m σ H ⟨Hd, io, ro, st, l, rs, q⟩ => ?_⟩
    cases m with
    | zero => exact q.elim
    | succ m =>
      simp only [whlRun] at q
      refine ⟨Hd, io, ro, st, l, rs, PO.tst rs q fun k H1 Hd1 io1 st1 e1 l1 rs1 q => ?_⟩
      cases k with
      | false => exact q σ Hd1 io1 H1 Ext.refl l1 rs1
      | true =>
        simp only [if_true] at q ⊢
        refine ⟨fun σ H => ∃ Hd io ro st, Rl X.K Hd io st H ∧ RelS X.K Hd io ro σ ∧ PO X.K S Wx Hd io H D (whlRun (ev G e) (exs G b) m ro st), fun σ' H' w => ⟨m, by omega, w⟩, Hd1, io1, ro, st1, l1, rs1, ?_⟩
        exact PO.turn q fun ro2 st2 σ2 Hd2 io2 H2 e2 l2 rs2 q2 => ⟨Hd2, io2, ro2, st2, l2, rs2, q2⟩
theorem snd_for (t : T) (it : I) (b : Ss) (hb : SndSs G N b) : SndS G N (.for_ t it b) := by
  intro S Wx sc X x c f h
  cases x <;> try (simp [chkS] at h; done)
  rename_i tg iter body orelse p
  cases orelse with
  | cons _ _ => simp [chkS] at h
  | nil =>
    simp only [chkS, Bool.and_eq_true] at h
    obtain ⟨⟨⟨⟨h1, h2⟩, h3⟩, h4⟩, h5⟩ := h
    refine PSimp (ps_for f.pass c.calm (soundI G N it S Wx sc X iter tg c h3 (fun z => by
      rw [z] at h2
      simpa using h2)) (pg_ok c.hN c.nd c.calm c.hsc f.fn t tg h1) (hb S Wx sc X _ c f h5) (fun x => by
        cases iter <;> first | rfl | (cases h4; done))) fun D σ H ⟨Hd, io, ro, st, l, rs, q⟩ => ?_
    simp only [ex] at q
    refine ⟨Hd, io, ro, st, l, rs, PO.bind (Rel := RelJ X.K) rs q fun J H0 Hd0 io0 ds st0 e0 l0 rs0 y q => ?_⟩
    refine ⟨fun i m σ H => m + i = ds.length ∧ ∃ Hd io ro st, Le Hd0 Hd ∧ Rl X.K Hd io st H ∧ RelS X.K Hd io ro σ ∧ PO X.K S Wx Hd io H D (forRun (exs G b) t (ds.drop i) ro st), ⟨ds.length, by omega, Hd0, io0, ro, st0, Le.refl _, l0, rs0, by simpa using q⟩, fun i m σ1 H1 ⟨hm, Hd1, io1, ro1, st1, le1, l1, rs1, q⟩ => ?_⟩
    by_cases hi : i < ds.length
    · right
      have le01 : Le Hd0 H1 := le1.trans l1.sub
      refine ⟨y.go i H1 le01 hi, fun σ' H' => (m - 1) + (i + 1) = ds.length ∧ ∃ Hd io ro st, Le Hd0 Hd ∧ Rl X.K Hd io st H' ∧ RelS X.K Hd io ro σ' ∧ PO X.K S Wx Hd io H' D (forRun (exs G b) t (ds.drop (i + 1)) ro st), fun σ' H' w => ⟨m - 1, by omega, w⟩, fun x H' yy => ?_⟩
      obtain ⟨d, hd, hx⟩ := y.yld i H1 x H' le01 hi yy
      have drop_ : ds.drop i = d :: ds.drop (i + 1) := by
        rw [List.drop_eq_getElem_cons hi]
        rw [List.getElem?_eq_getElem hi] at hd
        cases hd
        rfl
      rw [drop_] at q
      simp only [forRun] at q
      cases ha : asgT t d ro1 with
      | none => rw [ha] at q; exact q.elim
      | some ro2 =>
        rw [ha] at q
        dsimp only at q
        have got : ∃ Hd2, Ext Hd1 io1 H1 Hd2 io1 H' ∧ Rl X.K Hd2 io1 st1 H' ∧ RelD X.K Hd2 x d := by
          rcases hx with ⟨rfl, hx⟩ | ⟨T, vs, es, rfl, hT, rfl, rfl, hr⟩
          · exact ⟨Hd1, Ext.refl, l1, RelD.mono le1 hx⟩
          · obtain ⟨l2, e2⟩ := l1.newD hT (.tup vs)
            exact ⟨_, e2, l2, relD_newTup (l1.fresh hT) (hr.mono le1)⟩
        obtain ⟨Hd2, e2, l2, rx⟩ := got
        refine ⟨Hd2, io1, ro1, d, ro2, l2.sub, rx, rs1.mono e2, ha, fun σ3 rs3 _ => ?_⟩
        refine ⟨Hd2, io1, ro2, st1, l2, rs3, PO.turn (PO.ext e2 q) fun ro4 st4 σ4 Hd4 io4 H4 e4 l4 rs4 q4 => ?_⟩
        exact ⟨by omega, Hd4, io4, ro4, st4, (le1.trans e2.hd).trans e4.hd, l4, rs4, q4⟩
    · left
      have hi' : ds.length ≤ i := by omega
      refine ⟨y.stop i H1 (le1.trans l1.sub) hi', ?_⟩
      rw [List.drop_eq_nil_of_le hi'] at q
      simp only [forRun] at q
      exact q σ1 Hd1 io1 H1 Ext.refl l1 rs1
theorem soundS (G : Gt) (N : List Str) (b : Ss) : SndSs G N b :=
  Ss.rec (motive_1 := SndS G N) (motive_2 := SndSs G N) snd_pass snd_brk snd_cnt snd_retN snd_set snd_unp snd_par snd_par3 snd_dput snd_app snd_expr snd_ret
    (fun o f e => snd_fset o f e) (fun y es => snd_raise y es) (fun b y i j h => snd_tryk b y i j h)
    (fun c a b h1 h2 => snd_iff c a b h1 h2) (fun t it b h => snd_for t it b h) (fun n c b h => snd_whl n c b h) snds_nil (fun s r h1 h2 => snds_cons h1 h2) b
end Ev
set_option Elab.async false
set_option linter.all false
set_option maxRecDepth 100000
set_option maxHeartbeats 1000000
namespace Ev
open PySem PySem.Spec PyProof.Rows L2
/-! ### defs -/
def ini (n : Nat) (ws : List W) : Ro := ws.map some ++ List.replicate (n - ws.length) none
def outP : O → Option (Except Xv D)
  | .ret w st => (match keepD st w with
    | .ok d _ => some (.ok d)
    | _ => none)
  | .nx _ _ => some (.ok .non)
  | .exc x _ _ => some (.error x)
  | _ => none
def outS : O → R W
  | .ret w st => .ok w st
  | .nx _ st => .ok (.d .non) st
  | .exc x _ st => .exc x st
  | _ => .bad
def runP (G : Gt) (sl n : Nat) (b : Ss) (ds : List D) : Option (Except Xv D) := if ds.length = n then outP (exs G b (ini sl (ds.map W.d)) []) else none
def runS (G : Gt) (sl n : Nat) (b : Ss) (ws : List W) (st : Store) : R W := if ws.length = n then outS (exs G b (ini sl ws) st) else .bad
structure Glob (G : Gt) (S : IsX) (P : Program) (w : World) (K : PySem.W.Frag) (mg : Str → Option Value) (base : Heap) (k : Nat) : Prop where
  two : 2 ≤ k
  hS : S = isXv K
  ini : ∀ c F, G.ini c = some F → ∃ n, (∀ ws st, F ws st ≠ .bad → ws.length = n) ∧ ∃ f fd ps, ps.length = n ∧ L2.Mk K (He.ga K c) f ∧ FnG P w K mg base (k - 1) f fd ps (spS S K n F) ∧ mg c = some (.ref (He.ga K c)) ∧ L2.Binds K fd ps []
  meth : ∀ c m F, G.meth c m = some F → ∃ n, (∀ ws st, F ws st ≠ .bad → ws.length = n) ∧ ∃ f fd ps, ps.length = n ∧ L2.Cls K (He.ga K c) ∧ L2.Meth K (He.ga K c) m f ∧ FnG P w K mg base k f fd ps (spS S K n F) ∧ L2.Binds K fd ps []
  cfl : ∀ c f, G.cfl c f = true → L2.Cls K (He.ga K c) ∧ L2.NoAttr K (He.ga K c) f
  tix : ∀ x ys, G.tix x = some ys → TixOk K mg x ys
  mke : ∀ x i, G.mke x = some i → MkOk P w K mg base x i
  sub : ∀ x y b, G.sub x y = some b → SubOk K mg x y b
  exm : ∀ x y b, G.exm x y = some b → ExmOk K mg x y b
  fld : ∀ x f, G.fld x f = true → FldOk K x f
  con : ∀ x d, G.con x = some d → ∃ v u, mg x = some u ∧ L2.RelV v u ∧ ∀ Hd, RelD K Hd v d
  blt : ∀ x ∈ blts, mg x = none
  fp : ∀ x F, G.fp x = some F → ∃ n, (∀ ds y, F ds = some y → ds.length = n) ∧ ∃ fa fd ps, ps.length = n ∧ FnG P w K mg base k fa fd ps (spP S K n F) ∧ mg x = some (.ref fa) ∧ PySem.W.keepIn K (.ref fa) = true ∧ L2.Binds K fd ps []
  fs : ∀ x F, G.fs x = some F → ∃ n, (∀ ds st, F ds st ≠ .bad → ds.length = n) ∧ ∃ fa fd ps, ps.length = n ∧ FnG P w K mg base k fa fd ps (spS S K n F) ∧ mg x = some (.ref fa) ∧ PySem.W.keepIn K (.ref fa) = true ∧ L2.Binds K fd ps []
def Gt.addP (G : Gt) (x : Str) (F : List D → Option (Except Xv D)) : Gt := { G with fp := fun y => if y = x then some F else G.fp y }
def Gt.addI (G : Gt) (x : Str) (F : List W → Store → R W) : Gt := { G with ini := fun y => if y = x then some F else G.ini y }
def Gt.addM (G : Gt) (c m : Str) (F : List W → Store → R W) : Gt := { G with meth := fun y z => if y = c ∧ z = m then some F else G.meth y z }
def Gt.addS (G : Gt) (x : Str) (F : List W → Store → R W) : Gt := { G with fs := fun y => if y = x then some F else G.fs y }
section
variable {G : Gt} {S : IsX} {P : Program} {w : World} {K : PySem.W.Frag} {mg : Str → Option Value} {base : Heap} {k : Nat}
theorem Glob.up (g : Glob G S P w K mg base k) : Glob G S P w K mg base (k + 1) where
  two := Nat.le_succ_of_le g.two
  hS := g.hS
  ini c F h := let ⟨n, h1, f, fd, ps, h2, h3, h4, h5⟩ := g.ini c F h; ⟨n, h1, f, fd, ps, h2, h3, h4.mono (by omega), h5⟩
  meth c m F h := let ⟨n, h1, f, fd, ps, h2, h3, h4, h5, h6⟩ := g.meth c m F h; ⟨n, h1, f, fd, ps, h2, h3, h4, h5.mono (Nat.le_succ k), h6⟩
  cfl := g.cfl
  tix := g.tix
  mke := g.mke
  sub := g.sub
  exm := g.exm
  fld := g.fld
  con := g.con
  blt := g.blt
  fp x F h := let ⟨n, h1, fa, fd, ps, h2, h3, h4⟩ := g.fp x F h; ⟨n, h1, fa, fd, ps, h2, h3.mono (Nat.le_succ k), h4⟩
  fs x F h := let ⟨n, h1, fa, fd, ps, h2, h3, h4⟩ := g.fs x F h; ⟨n, h1, fa, fd, ps, h2, h3.mono (Nat.le_succ k), h4⟩
theorem Glob.addP (g : Glob G S P w K mg base k) {x : Str} {fa : Addr} {fd : FuncData} {ps : List Str} {F : List D → Option (Except Xv D)} (hn : ∀ ds y, F ds = some y → ds.length = ps.length) (h : FnG P w K mg base (k + 1) fa fd ps (spP S K ps.length F))
    (hm : mg x = some (.ref fa)) (hk : PySem.W.keepIn K (.ref fa) = true) (hb : L2.Binds K fd ps []) : Glob (G.addP x F) S P w K mg base (k + 1) where
  two := Nat.le_succ_of_le g.two
  hS := g.hS
  ini := g.up.ini
  meth := g.up.meth
  cfl := g.cfl
  tix := g.tix
  mke := g.mke
  sub := g.sub
  exm := g.exm
  fld := g.fld
  con := g.con
  blt := g.blt
  fs := g.up.fs
  fp y F' e := by
    by_cases z : y = x
    · have e : (if y = x then some F else G.fp y) = some F' := e
      rw [if_pos z] at e
      cases e
      exact ⟨ps.length, hn, fa, fd, ps, rfl, h, by rw [z]; exact hm, hk, hb⟩
    · have e : (if y = x then some F else G.fp y) = some F' := e
      rw [if_neg z] at e
      exact g.up.fp y F' e
theorem Glob.addS (g : Glob G S P w K mg base k) {x : Str} {fa : Addr} {fd : FuncData} {ps : List Str} {F : List W → Store → R W} (hn : ∀ ds st, F ds st ≠ .bad → ds.length = ps.length) (h : FnG P w K mg base (k + 1) fa fd ps (spS S K ps.length F))
    (hm : mg x = some (.ref fa)) (hk : PySem.W.keepIn K (.ref fa) = true) (hb : L2.Binds K fd ps []) : Glob (G.addS x F) S P w K mg base (k + 1) where
  two := Nat.le_succ_of_le g.two
  hS := g.hS
  ini := g.up.ini
  meth := g.up.meth
  cfl := g.cfl
  tix := g.tix
  mke := g.mke
  sub := g.sub
  exm := g.exm
  fld := g.fld
  con := g.con
  blt := g.blt
  fp := g.up.fp
  fs y F' e := by
    by_cases z : y = x
    · have e : (if y = x then some F else G.fs y) = some F' := e
      rw [if_pos z] at e
      cases e
      exact ⟨ps.length, hn, fa, fd, ps, rfl, h, by rw [z]; exact hm, hk, hb⟩
    · have e : (if y = x then some F else G.fs y) = some F' := e
      rw [if_neg z] at e
      exact g.up.fs y F' e
theorem Glob.addI (g : Glob G S P w K mg base k) {x : Str} {fa : Addr} {fd : FuncData} {ps : List Str} {F : List W → Store → R W} (hn : ∀ ds st, F ds st ≠ .bad → ds.length = ps.length) (h : FnG P w K mg base (k + 1) fa fd ps (spS S K ps.length F))
    (hM : L2.Mk K (He.ga K x) fa) (hm : mg x = some (.ref (He.ga K x))) (hb : L2.Binds K fd ps []) : Glob (G.addI x F) S P w K mg base (k + 1 + 1) where
  two := Nat.le_succ_of_le (Nat.le_succ_of_le g.two)
  hS := g.hS
  ini y F' e := by
    have e : (if y = x then some F else G.ini y) = some F' := e
    by_cases z : y = x
    · rw [if_pos z] at e
      cases e
      subst z
      exact ⟨ps.length, hn, fa, fd, ps, rfl, hM, h, hm, hb⟩
    · rw [if_neg z] at e
      exact g.up.up.ini y F' e
  meth := g.up.up.meth
  cfl := g.cfl
  tix := g.tix
  mke := g.mke
  sub := g.sub
  exm := g.exm
  fld := g.fld
  con := g.con
  blt := g.blt
  fp := g.up.up.fp
  fs := g.up.up.fs
theorem Glob.addM (g : Glob G S P w K mg base k) {c m : Str} {fa : Addr} {fd : FuncData} {ps : List Str} {F : List W → Store → R W} (hn : ∀ ds st, F ds st ≠ .bad → ds.length = ps.length) (h : FnG P w K mg base (k + 1) fa fd ps (spS S K ps.length F))
    (hC : L2.Cls K (He.ga K c)) (hM : L2.Meth K (He.ga K c) m fa) (hb : L2.Binds K fd ps []) : Glob (G.addM c m F) S P w K mg base (k + 1) where
  two := Nat.le_succ_of_le g.two
  hS := g.hS
  ini := g.up.ini
  meth y z F' e := by
    have e : (if y = c ∧ z = m then some F else G.meth y z) = some F' := e
    by_cases q : y = c ∧ z = m
    · rw [if_pos q] at e
      cases e
      obtain ⟨rfl, rfl⟩ := q
      exact ⟨ps.length, hn, fa, fd, ps, rfl, hC, hM, h, hb⟩
    · rw [if_neg q] at e
      exact g.up.meth y z F' e
  cfl := g.cfl
  tix := g.tix
  mke := g.mke
  sub := g.sub
  exm := g.exm
  fld := g.fld
  con := g.con
  blt := g.blt
  fp := g.up.fp
  fs := g.up.fs
theorem runP_len {sl n : Nat} {b : Ss} {ds : List D} {y : Except Xv D} (h : runP G sl n b ds = some y) : ds.length = n := by
  unfold runP at h
  split at h
  · assumption
  · cases h
theorem runS_len {sl n : Nat} {b : Ss} {ds : List W} {st : Store} (h : runS G sl n b ds st ≠ .bad) : ds.length = n := by
  unfold runS at h
  split at h
  · assumption
  · exact absurd rfl h
theorem RelWs.get {Hd : Hp} {io : List Addr} : ∀ {ws : List W} {vs : List V} {i : Nat} {x : W}, RelWs K Hd io ws vs → ws[i]? = some x → ∃ v, vs[i]? = some v ∧ RelW K Hd io x v
  | _, _, i, x, .nil, h => by simp at h
  | _, _, 0, x, .cons h r, e => by simp at e; subst e; exact ⟨_, rfl, h⟩
  | _, _, i + 1, x, .cons h r, e => by
    obtain ⟨v, h1, h2⟩ := RelWs.get r (i := i) (x := x) (by simpa using e)
    exact ⟨v, by simpa using h1, h2⟩
theorem relS_start {Hd : Hp} {io : List Addr} {N : List Str} {ws : List W} {vs : List V} (r : RelWs K Hd io ws vs) : RelS K Hd io (ini N.length ws) (L2.start N vs) := by
  have hl := r.length
  refine ⟨by simp [ini, L2.start, hl], fun i x h => ?_⟩
  unfold ini at h
  unfold L2.start
  by_cases hi : i < ws.length
  · rw [List.getElem?_append_left (by simpa using hi), List.getElem?_map] at h
    rw [List.getElem?_append_left (by simpa [hl] using hi), List.getElem?_map]
    cases q : ws[i]? with
    | none => rw [q] at h; cases h
    | some y =>
      rw [q] at h
      cases h
      obtain ⟨v, h1, h2⟩ := r.get q
      exact ⟨v, by rw [h1]; rfl, h2⟩
  · rw [List.getElem?_append_right (by simpa using hi), List.getElem?_replicate] at h
    split at h <;> cases h
theorem RelDs.ws {Hd : Hp} {io : List Addr} : ∀ {vs : List V} {ds : List D}, RelDs K Hd vs ds → RelWs K Hd io (ds.map W.d) vs
  | _, _, .nil => .nil
  | _, _, .cons h r => .cons h (RelDs.ws r)
theorem Ext.forget {Hd H Hd' H' : Hp} {io' : List Addr} (e : Ext Hd [] H Hd' io' H') : Ext Hd [] H Hd' [] H' :=
  ⟨e.hd, e.new, ⟨[], by simp, by simp⟩, e.fr, e.liv⟩
theorem ctx_of {CXl : True} {N : List Str} {qual : Str} {scope : Scope} {f : Addr} {cdv : Value} {Ar : Around} {fr : List Env} {sh : Shared} {Ha : Hp} {E : XK} (g : Glob G S P w K mg base k) (nd : N.Nodup) (hr : Room k (Ar.deeper (envOfC qual scope sh.heap.objs.size f cdv))) (hgd : Ar.guards = some []) :
    CtxOk G N S (fun cls d _ H => E cls d H) scope (cxOf (L2.CX P w) P w K mg base N qual scope f cdv Ar fr sh Ha E) where
  hN := rfl
  nd := nd
  hsc := rfl
  calm := rfl
  tk := L2.takes_of rfl rfl rfl rfl
  gd := hgd
  room := by have := hr.un; show (Ar.deeper (envOfC qual scope sh.heap.objs.size f cdv)).units + 65 < cLine; omega
  rm := hr.mono g.two
  hS := g.hS
  ini c F h := let ⟨n, h1, f, fd, ps, h2, h3, h4, h5⟩ := g.ini c F h; ⟨n, h1, k - 1, f, fd, ps, h2, h3, h4, by have := g.two; rw [show k - 1 + 1 = k by omega]; exact hr, h5⟩
  meth c m F h := let ⟨n, h1, f, fd, ps, h2, h3, h4, h5, h6⟩ := g.meth c m F h; ⟨n, h1, k, f, fd, ps, h2, h3, h4, h5, hr, h6⟩
  cfl := g.cfl
  tix := g.tix
  mke := g.mke
  sub := g.sub
  exm := g.exm
  fld := g.fld
  con := g.con
  blt := g.blt
  fp x F h := let ⟨n, h1, fa, fd, ps, h2, h3, h4⟩ := g.fp x F h; ⟨n, h1, k, fa, fd, ps, h2, h3, hr, h4⟩
  fs x F h := let ⟨n, h1, fa, fd, ps, h2, h3, h4⟩ := g.fs x F h; ⟨n, h1, k, fa, fd, ps, h2, h3, hr, h4⟩
theorem fnOf_of {N : List Str} {qual : Str} {scope : Scope} {f : Addr} {cdv : Value} {Ar : Around} {fr : List Env} {sh : Shared} {Ha : Hp} {E : XK} (hk : scope.kind = .function) :
    FnOf scope (cxOf (L2.CX P w) P w K mg base N qual scope f cdv Ar fr sh Ha E) where
  fn := fun _ _ => rfl
  pass := L2.passes_of rfl
  kind := hk
  stk := rfl
  frm := rfl
  noex := rfl
theorem fnP (g : Glob G S P w K mg base k) {x qual : Str} {params : Arguments} {body : List Stmt} {scope : Scope} {f : Addr} {fd : FuncData} {N ps : List Str} {b : Ss} (F : FunD K x qual params body scope [] [] f fd) (Sc : FnScope N ps scope) (hb : chkSs N scope b body = true) :
    FnG P w K mg base (k + 1) f fd ps (spP S K ps.length (runP G N.length ps.length b)) := by
  refine fnG_of F Sc (fun vs H Q E h => h.1) fun cdv Ar fr sh Ha vs Q E hr hgd hsp => ?_
  obtain ⟨hl, Hd, ds, le, rd, m⟩ := hsp
  refine ⟨_, soundS G N b S _ scope _ body (ctx_of (CXl := trivial) (E := E) g Sc.nd hr hgd) (fnOf_of Sc.kind) hb, Hd, [], _, [], ⟨le, .nil, rfl, fun n a c h1 h2 => by simp at h1, fun a ha => by cases ha⟩, relS_start rd.ws, ?_⟩
  unfold runP at m
  rw [if_pos (by rw [← rd.length]; exact hl)] at m
  cases ho : exs G b (ini N.length (ds.map W.d)) [] with
  | bad => rw [ho] at m; exact m.elim
  | brk ro st => rw [ho] at m; exact m.elim
  | cnt ro st => rw [ho] at m; exact m.elim
  | nx ro st =>
    rw [ho] at m
    exact fun σ Hd' io' H' e l rs => m .non Hd' H' e.forget l.sub .non
  | exc x ro st =>
    rw [ho] at m
    exact fun σ cls d Hd' io' H' e l rs q => m Hd' H' cls d e.forget l.sub q
  | ret w1 st =>
    rw [ho] at m
    intro v Hd' io' H' e l r
    unfold outP at m
    dsimp only at m
    cases hk : keepD st w1 with
    | bad => rw [hk] at m; exact m.elim
    | exc x s => exact (keepD_noexc hk).elim
    | ok d st2 =>
      rw [hk] at m
      obtain ⟨Hd2, e2, l2, r2⟩ := keepD_ok l r hk
      exact m v Hd2 H' (e.trans e2).forget l2.sub r2
theorem fnS (g : Glob G S P w K mg base k) {x qual : Str} {params : Arguments} {body : List Stmt} {scope : Scope} {f : Addr} {fd : FuncData} {N ps : List Str} {b : Ss} (F : FunD K x qual params body scope [] [] f fd) (Sc : FnScope N ps scope) (hb : chkSs N scope b body = true) :
    FnG P w K mg base (k + 1) f fd ps (spS S K ps.length (runS G N.length ps.length b)) := by
  refine fnG_of F Sc (fun vs H Q E h => h.1) fun cdv Ar fr sh Ha vs Q E hr hgd hsp => ?_
  obtain ⟨hl, Hd, io, st, ws, l0, rw_, m⟩ := hsp
  refine ⟨_, soundS G N b S _ scope _ body (ctx_of (CXl := trivial) (E := E) g Sc.nd hr hgd) (fnOf_of Sc.kind) hb, Hd, io, _, st, l0, relS_start rw_, ?_⟩
  unfold runS at m
  rw [if_pos (by rw [← rw_.length]; exact hl)] at m
  cases ho : exs G b (ini N.length ws) st with
  | bad => rw [ho] at m; exact m.elim
  | brk ro st => rw [ho] at m; exact m.elim
  | cnt ro st => rw [ho] at m; exact m.elim
  | nx ro st =>
    rw [ho] at m
    exact fun σ Hd' io' H' e l rs => m .non Hd' io' H' e l .non
  | exc x ro st =>
    rw [ho] at m
    exact fun σ cls d Hd' io' H' e l rs q => m Hd' io' H' e l cls d q
  | ret w1 st =>
    rw [ho] at m
    exact fun v Hd' io' H' e l r => m v Hd' io' H' e l r
end
/-! ### a law -/
theorem law_sp {S : IsX} {K : PySem.W.Frag} {F : List D → Option (Except Xv D)} {ns : List Int} {H : Hp} {a : Addr} (h : F [.scr ns] = some (.ok (.bl true))) (hS : SqL K H a (ns.map V.int)) : spP S K 1 F [.ref a] H (fun v _ => v = .bl true) fun _ _ _ => False := by
  refine ⟨rfl, H, [.scr ns], Le.refl H, .cons (.scr hS) .nil, ?_⟩
  rw [h]
  intro v Hd' H' _ _ r
  cases r
  rfl
end Ev
set_option Elab.async false
set_option linter.all false
set_option maxRecDepth 100000
set_option maxHeartbeats 1000000
namespace Ev
open PySem PySem.Spec PyProof.Rows L2
/-! ### rewriting -/
@[simp] theorem peek_d (st : Store) (x : D) : peek st (.d x) = some x := rfl
@[simp] theorem opt2_dd {α : Type} (st : Store) (x y : D) (f : D → D → Option α) : opt2 st (.d x) (.d y) f = f x y := rfl
@[simp] theorem keepD_d (st : Store) (x : D) : keepD st (.d x) = .ok x st := rfl
@[simp] theorem keepAll_nil (st : Store) : keepAll [] st = .ok [] st := rfl
@[simp] theorem keepAll_d (st : Store) (x : D) (r : List W) : keepAll (.d x :: r) st = (keepAll r st).bind fun ds st2 => .ok (x :: ds) st2 := rfl
@[simp] theorem peekAll_nil (st : Store) : peekAll st [] = some [] := rfl
@[simp] theorem peekAll_d (st : Store) (x : D) (r : List W) : peekAll st (.d x :: r) = (peekAll st r).map (x :: ·) := rfl
@[simp] theorem okD_some (d : D) (st : Store) : okD (some d) st = .ok (.d d) st := rfl
@[simp] theorem okB_some (d : Bool) (st : Store) : okB (some d) st = .ok (.d (.bl d)) st := rfl
@[simp] theorem okE_ok (d : D) (st : Store) : okE (some (.ok d)) st = .ok (.d d) st := rfl
@[simp] theorem okE_err (x : Xv) (st : Store) : okE (some (.error x)) st = .exc x st := rfl
@[simp] theorem okL_some (d : List D) (st : Store) : okL (some d) st = .ok d st := rfl
@[simp] theorem tst_bl {α : Type} (b : Bool) (st : Store) (f : Bool → W → Store → R α) : (R.ok (.d (.bl b)) st).tst f = f b (.d (.bl b)) st := rfl
@[simp] theorem tst_non {α : Type} (st : Store) (f : Bool → W → Store → R α) : (R.ok (.d .non) st).tst f = f false (.d .non) st := rfl
@[simp] theorem tst_lst {α : Type} (ds : List D) (st : Store) (f : Bool → W → Store → R α) : (R.ok (.d (.lst ds)) st).tst f = f (!ds.isEmpty) (.d (.lst ds)) st := rfl
@[simp] theorem tst_int {α : Type} (i : Int) (st : Store) (f : Bool → W → Store → R α) : (R.ok (.d (.int i)) st).tst f = f (i != 0) (.d (.int i)) st := rfl
@[simp] theorem to_bl (b : Bool) (st : Store) (ro : Ro) (f : Bool → Store → O) : (R.ok (.d (.bl b)) st).to ro f = f b st := rfl
@[simp] theorem to_lst (ds : List D) (st : Store) (ro : Ro) (f : Bool → Store → O) : (R.ok (.d (.lst ds)) st).to ro f = f (!ds.isEmpty) st := rfl
@[simp] theorem o_exc {α : Type} (x : Xv) (st : Store) (ro : Ro) (f : α → Store → O) : (R.exc x st : R α).o ro f = .exc x ro st := rfl
@[simp] theorem to_exc (x : Xv) (st : Store) (ro : Ro) (f : Bool → Store → O) : (R.exc x st).to ro f = .exc x ro st := rfl
@[simp] theorem tst_exc {α : Type} (x : Xv) (st : Store) (f : Bool → W → Store → R α) : (R.exc x st).tst f = .exc x st := rfl
@[simp] theorem nox_ok' {α : Type} (a : α) (st : Store) : (R.ok a st).nox = .ok a st := rfl
@[simp] theorem then_ret (w : W) (st : Store) (f : Ro → Store → O) : (O.ret w st).then f = .ret w st := rfl
@[simp] theorem then_brk (ro : Ro) (st : Store) (f : Ro → Store → O) : (O.brk ro st).then f = .brk ro st := rfl
@[simp] theorem then_cnt (ro : Ro) (st : Store) (f : Ro → Store → O) : (O.cnt ro st).then f = .cnt ro st := rfl
@[simp] theorem then_exc (x : Xv) (ro : Ro) (st : Store) (f : Ro → Store → O) : (O.exc x ro st).then f = .exc x ro st := rfl
@[simp] theorem turn_nx (ro : Ro) (st : Store) (f : Ro → Store → O) : (O.nx ro st).turn f = f ro st := rfl
@[simp] theorem turn_cnt (ro : Ro) (st : Store) (f : Ro → Store → O) : (O.cnt ro st).turn f = f ro st := rfl
@[simp] theorem turn_brk (ro : Ro) (st : Store) (f : Ro → Store → O) : (O.brk ro st).turn f = .nx ro st := rfl
@[simp] theorem turn_ret (w : W) (st : Store) (f : Ro → Store → O) : (O.ret w st).turn f = .ret w st := rfl
@[simp] theorem outP_ret (d : D) (st : Store) : outP (.ret (.d d) st) = some (.ok d) := rfl
@[simp] theorem outP_nx (ro : Ro) (st : Store) : outP (.nx ro st) = some (.ok .non) := rfl
@[simp] theorem outP_exc (x : Xv) (ro : Ro) (st : Store) : outP (.exc x ro st) = some (.error x) := rfl
@[simp] theorem outS_ret (w : W) (st : Store) : outS (.ret w st) = .ok w st := rfl
@[simp] theorem outS_nx (ro : Ro) (st : Store) : outS (.nx ro st) = .ok (.d .non) st := rfl
@[simp] theorem outS_exc (x : Xv) (ro : Ro) (st : Store) : outS (.exc x ro st) = .exc x st := rfl
/-! operators -/
@[simp] theorem bin_add (i j : Int) : binD .Add (.int i) (.int j) = some (.int (i + j)) := rfl
@[simp] theorem bin_sub (i j : Int) : binD .Sub (.int i) (.int j) = some (.int (i - j)) := rfl
theorem bin_addL (a b : List D) (h : a.length + b.length ≤ 1000000) : binD .Add (.lst a) (.lst b) = some (.lst (a ++ b)) :=
  if_pos (Nat.le_trans h (by rw [sizeLine_eq]; decide))
theorem bin_addS (a b : Str) (h : a.length + b.length ≤ 1000000) : binD .Add (.str a) (.str b) = some (.str (a ++ b)) :=
  if_pos (Nat.le_trans h (by rw [sizeLine_eq]; decide))
theorem log2_lt {n k : Nat} (h : n < 2 ^ k) (hk : 0 < k) : n.log2 < k := by
  rcases Nat.eq_zero_or_pos n with rfl | hn
  · simpa using hk
  · exact (Nat.log2_lt (by omega)).mpr h
/-- a whole number that is not great -/
def Sm (i : Int) : Prop := i.natAbs < 2 ^ 100000
theorem Sm.log {i : Int} (h : Sm i) : i.natAbs.log2 < 100000 := log2_lt h (by decide)
theorem sm_of {i : Int} (h : -(2 ^ 4096) < i ∧ i < 2 ^ 4096) : Sm i := by
  unfold Sm
  have : i.natAbs < 2 ^ 4096 := by omega
  exact Nat.lt_of_lt_of_le this (Nat.pow_le_pow_right (by decide) (by decide))
theorem bin_mul (i j : Int) (h : Sm i) (k : Sm j) : binD .Mult (.int i) (.int j) = some (.int (i * j)) :=
  if_pos (by have := h.log; have := k.log; omega)
theorem bin_mod (i j : Int) (h : 0 < j) : binD .Mod (.int i) (.int j) = some (.int (i % j)) := if_pos h
theorem bin_fdiv (i j : Int) (h : 0 < j) (k : j < 2 ^ 64) : binD .FloorDiv (.int i) (.int j) = some (.int (i / j)) :=
  if_pos ⟨h, Nat.lt_trans (log2_lt (k := 64) (by omega) (by decide)) (by decide)⟩
theorem bin_pow (i : Int) (n : Nat) (h : i.natAbs < 2 ^ 64) (k : n ≤ 1000000) : binD .Pow (.int i) (.int n) = some (.int (i ^ n)) :=
  (if_pos (show (0 : Int) ≤ n ∧ (n : Int) ≤ 1000000 ∧ i.natAbs < 2 ^ 64 from ⟨by omega, by omega, h⟩)).trans (by simp)
@[simp] theorem cmp_lt (i j : Int) : cmpD .Lt (.int i) (.int j) = some (decide (i < j)) := rfl
@[simp] theorem cmp_le (i j : Int) : cmpD .LtE (.int i) (.int j) = some (decide (i ≤ j)) := rfl
@[simp] theorem cmp_gt (i j : Int) : cmpD .Gt (.int i) (.int j) = some (decide (j < i)) := rfl
@[simp] theorem cmp_ge (i j : Int) : cmpD .GtE (.int i) (.int j) = some (decide (j ≤ i)) := rfl
@[simp] theorem cmp_eqI (i j : Int) : cmpD .Eq (.int i) (.int j) = some (i == j) := rfl
@[simp] theorem cmp_neI (i j : Int) : cmpD .NotEq (.int i) (.int j) = some (!(i == j)) := rfl
@[simp] theorem cmp_eqS (i j : Str) : cmpD .Eq (.str i) (.str j) = some (i == j) := rfl
@[simp] theorem cmp_neS (i j : Str) : cmpD .NotEq (.str i) (.str j) = some (!(i == j)) := rfl
@[simp] theorem cmp_is (d : D) : cmpD .Is d .non = some d.isNon := by cases d <;> rfl
@[simp] theorem cmp_isnot (d : D) : cmpD .IsNot d .non = some (!d.isNon) := by cases d <;> rfl
theorem nods_all : ∀ ds : List D, D.nods ds = ds.all D.nod
  | [] => rfl
  | d :: ds => by rw [D.nods, nods_all ds]; rfl
theorem eqD_self (d : D) (h : D.nod d = true) (k : D.dep d ≤ 60) : eqD d d = some true := by
  unfold eqD shallow
  rw [h, D.eqv_self d h]
  simp [k]
/-- one sign in a text -/
theorem in_sign (a : Str) (c : Nat) : cmpD .In (.str ⟨#[c]⟩) (.str a) = some (decide (c ∈ a.cps.toList)) :=
  congrArg some (StrLaws.found_one a c)
theorem notin_sign (a : Str) (c : Nat) : cmpD .NotIn (.str ⟨#[c]⟩) (.str a) = some (!decide (c ∈ a.cps.toList)) :=
  congrArg (fun b => some (!b)) (StrLaws.found_one a c)
theorem len_str (z : Str) (h : z.length ≤ 1000000) : biD .len [.str z] = some (.int z.length) := if_pos (Nat.le_trans h (by rw [sizeLine_eq]; decide))
@[simp] theorem len_lst (z : List D) : biD .len [.lst z] = some (.int z.length) := rfl
@[simp] theorem len_tup (z : List D) : biD .len [.tup z] = some (.int z.length) := rfl
@[simp] theorem len_scr (z : List Int) : biD .len [.scr z] = some (.int z.length) := rfl
def signs (z : Str) : List D := z.cps.toList.map fun c => .str ⟨#[c]⟩
theorem items_str (z : Str) (h : z.length ≤ 1000000) : itemsOf (.str z) = some (signs z) := if_pos (Nat.le_trans h (by rw [sizeLine_eq]; decide))
@[simp] theorem items_lst (z : List D) : itemsOf (.lst z) = some z := rfl
@[simp] theorem items_tup (z : List D) : itemsOf (.tup z) = some z := rfl
@[simp] theorem items_scr (z : List Int) : itemsOf (.scr z) = some (z.map .int) := rfl
theorem boolsOf_map : ∀ bs : List Bool, boolsOf (bs.map D.bl) = some bs
  | [] => rfl
  | b :: bs => by simp [boolsOf, boolsOf_map bs]
theorem intsOf_map : ∀ bs : List Int, intsOf (bs.map D.int) = some bs
  | [] => rfl
  | b :: bs => by simp [intsOf, intsOf_map bs]
theorem all_bools (bs : List Bool) : biD .all [.lst (bs.map D.bl)] = some (.bl (bs.all id)) := by
  show (boolsOf _).map _ = _
  rw [boolsOf_map]; rfl
theorem any_bools (bs : List Bool) : biD .any [.lst (bs.map D.bl)] = some (.bl (bs.any id)) := by
  show (boolsOf _).map _ = _
  rw [boolsOf_map]; rfl
theorem sum_ints (bs : List Int) : biD .sum [.lst (bs.map D.int)] = some (.int bs.sum) := by
  show (intsOf _).map _ = _
  rw [intsOf_map]; rfl
@[simp] theorem sum_scr (bs : List Int) : biD .sum [.scr bs] = some (.int bs.sum) := rfl
/-! comprehensions -/
/-- no test, each item's value -/
theorem lc_map (f : D → D) {fe : Ro → Store → R W} {t : T} {ro : Ro} {st : Store} : ∀ (xs : List D) (acc : List D), (∀ x ∈ xs, ∃ ro1, asgT t x ro = some ro1 ∧ fe ro1 st = .ok (.d (f x)) st) →
    lcRun (fun _ st => .ok (.d (.bl true)) st) fe t ro xs st acc = .ok (acc ++ xs.map f) st
  | [], acc, _ => by simp [lcRun]
  | x :: xs, acc, h => by
    obtain ⟨ro1, h1, h2⟩ := h x (by simp)
    simp only [lcRun, h1, tst_bl, if_true, h2, R.bind_ok, keepD_d]
    rw [lc_map f xs (acc ++ [f x]) fun y hy => h y (by simp [hy])]
    simp
/-- a test, each item's value -/
theorem lc_filter (p : D → Bool) (f : D → D) {fc fe : Ro → Store → R W} {t : T} {ro : Ro} {st : Store} : ∀ (xs : List D) (acc : List D), (∀ x ∈ xs, ∃ ro1, asgT t x ro = some ro1 ∧ fc ro1 st = .ok (.d (.bl (p x))) st ∧ (p x = true → fe ro1 st = .ok (.d (f x)) st)) →
    lcRun fc fe t ro xs st acc = .ok (acc ++ (xs.filter p).map f) st
  | [], acc, _ => by simp [lcRun]
  | x :: xs, acc, h => by
    obtain ⟨ro1, h1, h2, h3⟩ := h x (by simp)
    simp only [lcRun, h1, h2, tst_bl]
    cases hp : p x with
    | false =>
      simp only [Bool.false_eq_true, if_false]
      rw [lc_filter p f xs acc fun y hy => h y (by simp [hy])]
      simp [hp]
    | true =>
      simp only [if_true, h3 hp, R.bind_ok, keepD_d]
      rw [lc_filter p f xs (acc ++ [f x]) fun y hy => h y (by simp [hy])]
      simp [hp]
theorem ev_lc {G : Gt} {own : List Nat} {t : T} {it : I} {c e : M} {ro : Ro} {st : Store} (items : List D) (p : D → Bool) (f : D → D) (hi : evi G it ro st = .ok items st) (hl : items.length ≤ 1000000)
    (h : ∀ x ∈ items, ∃ ro1, asgT t x (wipeW ro own) = some ro1 ∧ ev G c ro1 st = .ok (.d (.bl (p x))) st ∧ (p x = true → ev G e ro1 st = .ok (.d (f x)) st)) : ev G (.lc own t it c e) ro st = .ok (.d (.lst ((items.filter p).map f))) st := by
  simp only [ev, hi, R.bind_ok]
  rw [lc_filter p f items [] h]
  simp [hl]
theorem ev_lcm {G : Gt} {own : List Nat} {t : T} {it : I} {e : M} {ro : Ro} {st : Store} (items : List D) (f : D → D) (hi : evi G it ro st = .ok items st) (hl : items.length ≤ 1000000)
    (h : ∀ x ∈ items, ∃ ro1, asgT t x (wipeW ro own) = some ro1 ∧ ev G e ro1 st = .ok (.d (f x)) st) : ev G (.lc own t it (.bl true) e) ro st = .ok (.d (.lst (items.map f))) st := by
  rw [ev_lc items (fun _ => true) f hi hl fun x hx => ?_]
  · rw [List.filter_eq_self.mpr (fun _ _ => rfl)]
  · obtain ⟨ro1, h1, h2⟩ := h x hx
    exact ⟨ro1, h1, by simp only [ev], fun _ => h2⟩
theorem ex_dput {G : Gt} {o k v : M} {ro : Ro} {st st1 : Store} {n : Nat} {kd d : D} {key : Key} {kvs : List (Key × D)} (h1 : ev G v ro st = .ok (.d d) st1) (h2 : ev G o ro st1 = .ok (.cell n) st1) (h3 : ev G k ro st1 = .ok (.d kd) st1) (h4 : st1[n]? = some (.dic kvs)) (h5 : keyOf kd = some key) (h6 : kvs.length < 1000000) :
    ex G (.dput o k v) ro st = .nx ro (st1.set n (.dic (putD kvs key d))) := by
  simp only [ex, h1, R.o_ok, h2, h3, keepD_d, h4, h5, if_pos h6]
/-! ### the state that digits are drawn from -/
def drc (l c t : Int) : Cell := .dic [(.inr "left", .int l), (.inr "cell", .int c), (.inr "turns", .int t)]
theorem dr_left {st : Store} {n : Nat} {l c t : Int} (h : st[n]? = some (drc l c t)) : dgetD st (.cell n) (.d (.str "left")) = some (.int l) := by
  simp only [dgetD, h, drc, keyOf]
  rfl
theorem dr_cell {st : Store} {n : Nat} {l c t : Int} (h : st[n]? = some (drc l c t)) : dgetD st (.cell n) (.d (.str "cell")) = some (.int c) := by
  simp only [dgetD, h, drc, keyOf]
  rfl
theorem dr_turns {st : Store} {n : Nat} {l c t : Int} (h : st[n]? = some (drc l c t)) : dgetD st (.cell n) (.d (.str "turns")) = some (.int t) := by
  simp only [dgetD, h, drc, keyOf]
  rfl
theorem dr_putL {l c t x : Int} : Cell.dic (putD [(.inr "left", .int l), (.inr "cell", .int c), (.inr "turns", .int t)] (.inr "left") (.int x)) = drc x c t := rfl
theorem dr_putT {l c t x : Int} : Cell.dic (putD [(.inr "left", .int l), (.inr "cell", .int c), (.inr "turns", .int t)] (.inr "turns") (.int x)) = drc l c x := rfl
theorem put_left {G : Gt} {o v : M} {ro : Ro} {st : Store} {n : Nat} {l c t x : Int} (h : st[n]? = some (drc l c t)) (h2 : ev G o ro st = .ok (.cell n) st) (h1 : ev G v ro st = .ok (.d (.int x)) st) : ex G (.dput o (.str "left") v) ro st = .nx ro (st.set n (drc x c t)) :=
  ex_dput (kd := .str "left") (key := .inr "left") h1 h2 (by simp only [ev]) h rfl (by simp)
theorem put_turns {G : Gt} {o v : M} {ro : Ro} {st : Store} {n : Nat} {l c t x : Int} (h : st[n]? = some (drc l c t)) (h2 : ev G o ro st = .ok (.cell n) st) (h1 : ev G v ro st = .ok (.d (.int x)) st) : ex G (.dput o (.str "turns") v) ro st = .nx ro (st.set n (drc l c x)) :=
  ex_dput (kd := .str "turns") (key := .inr "turns") h1 h2 (by simp only [ev]) h rfl (by simp)
/-- digits can be drawn at n, at most T turns were made -/
def Drw (st : Store) (n : Nat) (T : Int) : Prop := ∃ l c t : Int, st[n]? = some (drc l c t) ∧ 0 ≤ l ∧ 0 ≤ t ∧ t ≤ T
/-- nothing but the cell n changed -/
def Oth (n : Nat) (st st' : Store) : Prop := st'.length = st.length ∧ ∀ m, m ≠ n → st'[m]? = st[m]?
theorem Oth.refl {n : Nat} {st : Store} : Oth n st st := ⟨rfl, fun _ _ => rfl⟩
theorem Oth.trans {n : Nat} {a b c : Store} (h : Oth n a b) (k : Oth n b c) : Oth n a c := ⟨k.1.trans h.1, fun m hm => (k.2 m hm).trans (h.2 m hm)⟩
theorem Oth.set {n : Nat} {st : Store} {x : Cell} : Oth n st (st.set n x) := ⟨by simp, fun m hm => by rw [List.getElem?_set_ne (fun z => hm z.symm)]⟩
theorem set_at {st : Store} {n : Nat} {a b : Cell} (h : st[n]? = some a) : (st.set n b)[n]? = some b := by
  rw [List.getElem?_set_self (List.getElem?_eq_some_iff.mp h).1]
/-! ### one constructor at a time -/
section
variable {G : Gt} {ro : Ro} {st : Store}
theorem ev_var {i : Nat} {w : W} (h : ro[i]? = some (some w)) : ev G (.var i) ro st = .ok w st := by simp only [ev, h]
theorem ev_non : ev G .non ro st = .ok (.d .non) st := by simp only [ev]
theorem ev_bl (b : Bool) : ev G (.bl b) ro st = .ok (.d (.bl b)) st := by simp only [ev]
theorem ev_int (i : Int) : ev G (.int i) ro st = .ok (.d (.int i)) st := by simp only [ev]
theorem ev_str (i : Str) : ev G (.str i) ro st = .ok (.d (.str i)) st := by simp only [ev]
theorem ev_glob (x : Str) : ev G (.glob x) ro st = okD (G.con x) st := by simp only [ev]
theorem ev_bin (op : Operator) (a b : M) : ev G (.bin op a b) ro st = (ev G a ro st).bind fun wa st1 => (ev G b ro st1).bind fun wb st2 => okD (opt2 st2 wa wb (binD op)) st2 := by simp only [ev]
theorem ev_cmp (op : CmpOp) (a b : M) : ev G (.cmp op a b) ro st = (ev G a ro st).bind fun wa st1 => (ev G b ro st1).bind fun wb st2 => okB (opt2 st2 wa wb (cmpD op)) st2 := by simp only [ev]
theorem ev_and (a b : M) : ev G (.and2 a b) ro st = (ev G a ro st).tst fun k wa st1 => if k = true then ev G b ro st1 else .ok wa st1 := by simp only [ev]
theorem ev_or (a b : M) : ev G (.or2 a b) ro st = (ev G a ro st).tst fun k wa st1 => if k = true then .ok wa st1 else ev G b ro st1 := by simp only [ev]
theorem ev_not (a : M) : ev G (.not a) ro st = (ev G a ro st).tst fun k _ st1 => .ok (.d (.bl (!k))) st1 := by simp only [ev]
theorem ev_ite (c a b : M) : ev G (.ite c a b) ro st = (ev G c ro st).tst fun k _ st1 => if k = true then ev G a ro st1 else ev G b ro st1 := by simp only [ev]
theorem ev_dget (d k : M) : ev G (.dget d k) ro st = (ev G d ro st).bind fun wd st1 => (ev G k ro st1).bind fun wk st2 => okD (dgetD st2 wd wk) st2 := by simp only [ev]
theorem ev_sub (a i : M) : ev G (.sub a i) ro st = (ev G a ro st).bind fun wa st1 => (ev G i ro st1).bind fun wb st2 => okD (opt2 st2 wa wb ixD) st2 := by simp only [ev]
theorem ev_bi (b : Bi) (es : Ms) : ev G (.bi b es) ro st = (evs G es ro st).bind fun ws st1 => okD ((peekAll st1 ws).bind (biD b)) st1 := by simp only [ev]
theorem ev_isi (a : M) (t : Ty) : ev G (.isi a t) ro st = (ev G a ro st).bind fun wa st1 => okB ((peek st1 wa).bind fun x => isiD x t) st1 := by simp only [ev]
theorem ev_lst (es : Ms) : ev G (.lst es) ro st = (evs G es ro st).bind fun ws st1 => (keepAll ws st1).bind fun ds st2 => if ds.length ≤ 1000 then .ok (.d (.lst ds)) st2 else .bad := by simp only [ev]
theorem ev_tup (es : Ms) : ev G (.tup es) ro st = (evs G es ro st).bind fun ws st1 => (keepAll ws st1).bind fun ds st2 => if ds.length ≤ 1000 then .ok (.d (.tup ds)) st2 else .bad := by simp only [ev]
theorem ev_callP {f : Str} {F : List D → Option (Except Xv D)} (h : G.fp f = some F) (es : Ms) : ev G (.callP f es) ro st = (evs G es ro st).bind fun ws st1 => (keepAll ws st1).bind fun ds st2 => okE (F ds) st2 := by simp only [ev, h]
theorem ev_callS {f : Str} {F : List W → Store → R W} (h : G.fs f = some F) (es : Ms) : ev G (.callS f es) ro st = (evs G es ro st).bind fun ws st1 => F ws st1 := by simp only [ev, h]
theorem evs_nil : evs G .nil ro st = .ok [] st := by simp only [evs]
theorem evs_cons (e : M) (r : Ms) : evs G (.cons e r) ro st = (ev G e ro st).bind fun w st1 => (evs G r ro st1).bind fun ws st2 => .ok (w :: ws) st2 := by simp only [evs]
theorem ev_chain {op op' : CmpOp} {a b c : M} {x y z : D} {p q : Bool} (ha : ev G a ro st = .ok (.d x) st) (hb : ev G b ro st = .ok (.d y) st) (hc : ev G c ro st = .ok (.d z) st) (h1 : cmpD op x y = some p) (h2 : cmpD op' y z = some q) :
    ev G (.chain op op' a b c) ro st = .ok (.d (.bl (p && q))) st := by
  simp only [ev, ha, R.bind_ok, hb, opt2_dd, h1]
  cases p
  · rfl
  · simp only [hc, R.bind_ok, opt2_dd, h2, okB_some, Bool.true_and]
theorem ev_lcU (own : List Nat) (t : T) (it : I) (c e : M) : ev G (.lc own t it c e) ro st = (evi G it ro st).bind fun items st1 => (lcRun (ev G c) (ev G e) t (wipeW ro own) items st1 []).nox.bind fun ds st2 => if items.length ≤ 1000000 then .ok (.d (.lst ds)) st2 else .bad := by simp only [ev]
theorem ev_slc0 (a : M) (i : Int) : ev G (.slc a .absent (.int i)) ro st = (ev G a ro st).bind fun wa st1 => okD ((peek st1 wa).bind fun x => slD x none (some i)) st1 := by simp only [ev, part, R.bind_ok, peek_d]
theorem evi_it (e : M) : evi G (.it e) ro st = (ev G e ro st).bind fun w st1 => (keepD st1 w).bind fun d st2 => okL (itemsOf d) st2 := by simp only [evi]
theorem ev_mthS {m : Mt} {o : M} {z : Str} (h : ev G o ro st = .ok (.d (.str z)) st) (es : Ms) : ev G (.mth m o es) ro st = (evs G es ro st).bind fun ws st2 => okD ((peekAll st2 ws).bind (mtD m (.str z))) st2 := by simp only [ev, h, R.bind_ok]
theorem ex_set (i : Nat) (e : M) : ex G (.set i e) ro st = (ev G e ro st).o ro fun w st1 => setRo ro i w st1 := by simp only [ex]
theorem ex_ret (e : M) : ex G (.ret e) ro st = (ev G e ro st).o ro fun w st1 => .ret w st1 := by simp only [ex]
theorem ex_iff (c : M) (a b : Ss) : ex G (.iff c a b) ro st = (ev G c ro st).to ro fun k st1 => if k = true then exs G a ro st1 else exs G b ro st1 := by simp only [ex]
theorem ex_for (t : T) (it : I) (b : Ss) : ex G (.for_ t it b) ro st = (evi G it ro st).o ro fun ds st1 => forRun (exs G b) t ds ro st1 := by simp only [ex]
theorem exs_nil : exs G .nil ro st = .nx ro st := by simp only [exs]
theorem exs_cons (s : S) (r : Ss) : exs G (.cons s r) ro st = (ex G s ro st).then fun ro1 st1 => exs G r ro1 st1 := by simp only [exs]
theorem setRo_ok' {i : Nat} {w : W} (h : i < ro.length) : setRo ro i w st = .nx (ro.set i (some w)) st := if_pos h
end
end Ev
set_option Elab.async false
set_option linter.all false
set_option maxRecDepth 100000
set_option maxHeartbeats 1000000
namespace Ev
open PySem PySem.Spec PyProof.Rows L2
section
variable {G : Gt} {ro : Ro} {st : Store}
theorem ev_or_b {a b : M} {p q : Bool} (ha : ev G a ro st = .ok (.d (.bl p)) st) (hb : p = false → ev G b ro st = .ok (.d (.bl q)) st) : ev G (.or2 a b) ro st = .ok (.d (.bl (p || q))) st := by
  rw [ev_or, ha, tst_bl]
  cases p
  · rw [if_neg (by decide), hb rfl]; rfl
  · rfl
theorem ev_and_b {a b : M} {p q : Bool} (ha : ev G a ro st = .ok (.d (.bl p)) st) (hb : p = true → ev G b ro st = .ok (.d (.bl q)) st) : ev G (.and2 a b) ro st = .ok (.d (.bl (p && q))) st := by
  rw [ev_and, ha, tst_bl]
  cases p
  · rfl
  · rw [if_pos rfl, hb rfl]; rfl
theorem ev_not_b {a : M} {p : Bool} (ha : ev G a ro st = .ok (.d (.bl p)) st) : ev G (.not a) ro st = .ok (.d (.bl (!p))) st := by rw [ev_not, ha, tst_bl]
theorem ev_bin_d {op : Operator} {a b : M} {x y z : D} (ha : ev G a ro st = .ok (.d x) st) (hb : ev G b ro st = .ok (.d y) st) (h : binD op x y = some z) : ev G (.bin op a b) ro st = .ok (.d z) st := by
  rw [ev_bin, ha, R.bind_ok, hb, R.bind_ok, opt2_dd, h, okD_some]
theorem ev_cmp_d {op : CmpOp} {a b : M} {x y : D} {z : Bool} (ha : ev G a ro st = .ok (.d x) st) (hb : ev G b ro st = .ok (.d y) st) (h : cmpD op x y = some z) : ev G (.cmp op a b) ro st = .ok (.d (.bl z)) st := by
  rw [ev_cmp, ha, R.bind_ok, hb, R.bind_ok, opt2_dd, h, okB_some]
theorem ev_sub_d {a b : M} {x y z : D} (ha : ev G a ro st = .ok (.d x) st) (hb : ev G b ro st = .ok (.d y) st) (h : ixD x y = some z) : ev G (.sub a b) ro st = .ok (.d z) st := by
  rw [ev_sub, ha, R.bind_ok, hb, R.bind_ok, opt2_dd, h, okD_some]
theorem ev_isi_d {a : M} {t : Ty} {x : D} {b : Bool} (ha : ev G a ro st = .ok (.d x) st) (h : isiD x t = some b) : ev G (.isi a t) ro st = .ok (.d (.bl b)) st := by
  rw [ev_isi, ha, R.bind_ok, peek_d]
  show okB (isiD x t) st = _
  rw [h, okB_some]
theorem ev_bi1 {b : Bi} {a : M} {x y : D} (ha : ev G a ro st = .ok (.d x) st) (h : biD b [x] = some y) : ev G (.bi b (.cons a .nil)) ro st = .ok (.d y) st := by
  rw [ev_bi, evs_cons, ha, R.bind_ok, evs_nil, R.bind_ok, R.bind_ok, peekAll_d, peekAll_nil]
  show okD (biD b [x]) st = _
  rw [h, okD_some]
theorem ev_ite_d {c a b : M} {p : Bool} {x y : D} (hc : ev G c ro st = .ok (.d (.bl p)) st) (ha : p = true → ev G a ro st = .ok (.d x) st) (hb : p = false → ev G b ro st = .ok (.d y) st) : ev G (.ite c a b) ro st = .ok (.d (if p = true then x else y)) st := by
  rw [ev_ite, hc, tst_bl]
  cases p
  · rw [if_neg (by decide), hb rfl]; rfl
  · rw [if_pos rfl, ha rfl]; rfl
theorem ev_glob_d {x : Str} {d : D} (h : G.con x = some d) : ev G (.glob x) ro st = .ok (.d d) st := by rw [ev_glob, h, okD_some]
theorem ev_mth1 {m : Mt} {o a : M} {z : Str} {x y : D} (ho : ev G o ro st = .ok (.d (.str z)) st) (ha : ev G a ro st = .ok (.d x) st) (h : mtD m (.str z) [x] = some y) : ev G (.mth m o (.cons a .nil)) ro st = .ok (.d y) st := by
  rw [ev_mthS ho, evs_cons, ha, R.bind_ok, evs_nil, R.bind_ok, R.bind_ok, peekAll_d, peekAll_nil]
  show okD (mtD m (.str z) [x]) st = _
  rw [h, okD_some]
theorem ev_callP1 {f : Str} {F : List D → Option (Except Xv D)} (hf : G.fp f = some F) {a : M} {x y : D} (ha : ev G a ro st = .ok (.d x) st) (h : F [x] = some (.ok y)) : ev G (.callP f (.cons a .nil)) ro st = .ok (.d y) st := by
  rw [ev_callP hf, evs_cons, ha, R.bind_ok, evs_nil, R.bind_ok, R.bind_ok, keepAll_d, keepAll_nil, R.bind_ok, R.bind_ok, h, okE_ok]
theorem ev_callP3 {f : Str} {F : List D → Option (Except Xv D)} (hf : G.fp f = some F) {a b c : M} {x y z r : D} (ha : ev G a ro st = .ok (.d x) st) (hb : ev G b ro st = .ok (.d y) st) (hc : ev G c ro st = .ok (.d z) st) (h : F [x, y, z] = some (.ok r)) : ev G (.callP f (.cons a (.cons b (.cons c .nil)))) ro st = .ok (.d r) st := by
  simp only [ev_callP hf, evs_cons, ha, R.bind_ok, hb, hc, evs_nil, keepAll_d, keepAll_nil, h, okE_ok]
/-- all of a list's parts -/
theorem ev_lst_d {es : Ms} {ds : List D} (h : evs G es ro st = .ok (ds.map W.d) st) (hl : ds.length ≤ 1000) : ev G (.lst es) ro st = .ok (.d (.lst ds)) st := by
  have k : ∀ ds : List D, keepAll (ds.map W.d) st = .ok ds st := fun ds => by
    induction ds with
    | nil => rfl
    | cons d ds ih => rw [List.map_cons, keepAll_d, ih, R.bind_ok]
  rw [ev_lst, h, R.bind_ok, k, R.bind_ok, if_pos hl]
theorem evs_d {a : M} {r : Ms} {x : D} {ds : List D} (ha : ev G a ro st = .ok (.d x) st) (hr : evs G r ro st = .ok (ds.map W.d) st) : evs G (.cons a r) ro st = .ok ((x :: ds).map W.d) st := by
  rw [evs_cons, ha, R.bind_ok, hr, R.bind_ok]; rfl
theorem evs_0 : evs G .nil ro st = .ok (([] : List D).map W.d) st := evs_nil
theorem ev_lst0 : ev G (.lst .nil) ro st = .ok (.d (.lst [])) st := ev_lst_d (ds := []) evs_0 (by decide)
theorem ex_set_d {i : Nat} {e : M} {w : W} {st1 : Store} (h : ev G e ro st = .ok w st1) (hi : i < ro.length) : ex G (.set i e) ro st = .nx (ro.set i (some w)) st1 := by
  rw [ex_set, h, R.o_ok, setRo_ok' hi]
theorem ex_ret_d {e : M} {w : W} {st1 : Store} (h : ev G e ro st = .ok w st1) : ex G (.ret e) ro st = .ret w st1 := by rw [ex_ret, h, R.o_ok]
theorem exs_nx {s : S} {r : Ss} {ro1 : Ro} {st1 : Store} (h : ex G s ro st = .nx ro1 st1) : exs G (.cons s r) ro st = exs G r ro1 st1 := by rw [exs_cons, h, O.then_nx]
theorem exs_ret {s : S} {r : Ss} {w : W} {st1 : Store} (h : ex G s ro st = .ret w st1) : exs G (.cons s r) ro st = .ret w st1 := by rw [exs_cons, h, then_ret]
theorem ex_iff_b {c : M} {a b : Ss} {p : Bool} {st1 : Store} (h : ev G c ro st = .ok (.d (.bl p)) st1) : ex G (.iff c a b) ro st = if p = true then exs G a ro st1 else exs G b ro st1 := by rw [ex_iff, h, to_bl]
end
/-! ### texts -/
def FIG : Str := "0123456789"
def allIn (w a : Str) : Bool := w.cps.toList.all fun c => decide (c ∈ a.cps.toList)
theorem sgn_mem {w : Str} {x : D} (h : x ∈ signs w) : ∃ c, c ∈ w.cps.toList ∧ x = .str ⟨#[c]⟩ := by
  obtain ⟨c, h1, h2⟩ := List.mem_map.mp h
  exact ⟨c, h1, h2.symm⟩
def inS (a : Str) : D → Bool
  | .str z => decide (z.cps.toList.headD 0 ∈ a.cps.toList)
  | _ => false
section
variable {G : Gt} {own : List Nat} {i : Nat} {eW eA : M} {ro : Ro} {st : Store} {w a : Str}
/-- [sign in a for sign in w] -/
theorem lc_in (hw : ev G eW ro st = .ok (.d (.str w)) st) (hl : w.length ≤ 1000000) (hi : i < (wipeW ro own).length)
    (ha : ∀ c, ev G eA ((wipeW ro own).set i (some (.d (.str ⟨#[c]⟩)))) st = .ok (.d (.str a)) st) :
    ev G (.lc own (.nm i) (.it eW) (.bl true) (.cmp .In (.var i) eA)) ro st = .ok (.d (.lst ((w.cps.toList.map fun c => decide (c ∈ a.cps.toList)).map D.bl))) st := by
  rw [ev_lcm (signs w) (fun x => .bl (inS a x)) (by rw [evi_it, hw, R.bind_ok, keepD_d, R.bind_ok, items_str w hl, okL_some]) (by unfold signs; rw [List.length_map, Array.length_toList]; exact hl) fun x hx => ?_]
  · unfold signs
    rw [List.map_map, List.map_map]
    rfl
  · obtain ⟨c, h1, rfl⟩ := sgn_mem hx
    refine ⟨(wipeW ro own).set i (some (.d (.str ⟨#[c]⟩))), by simp only [asgT, if_pos hi], ?_⟩
    rw [ev_cmp, ev_var (List.getElem?_set_self hi), R.bind_ok, ha, R.bind_ok, opt2_dd, in_sign, okB_some]
    rfl
/-- all([sign in a for sign in w]) -/
theorem all_in (hw : ev G eW ro st = .ok (.d (.str w)) st) (hl : w.length ≤ 1000000) (hi : i < (wipeW ro own).length)
    (ha : ∀ c, ev G eA ((wipeW ro own).set i (some (.d (.str ⟨#[c]⟩)))) st = .ok (.d (.str a)) st) :
    ev G (.bi .all (.cons (.lc own (.nm i) (.it eW) (.bl true) (.cmp .In (.var i) eA)) .nil)) ro st = .ok (.d (.bl (allIn w a))) st := by
  refine ev_bi1 (lc_in hw hl hi ha) ?_
  rw [all_bools, List.all_map]
  rfl
/-- [sign for sign in w if sign not in a] -/
theorem lc_out (hw : ev G eW ro st = .ok (.d (.str w)) st) (hl : w.length ≤ 1000000) (hi : i < (wipeW ro own).length)
    (ha : ∀ c, ev G eA ((wipeW ro own).set i (some (.d (.str ⟨#[c]⟩)))) st = .ok (.d (.str a)) st) :
    ∃ ds : List D, ev G (.lc own (.nm i) (.it eW) (.cmp .NotIn (.var i) eA) (.var i)) ro st = .ok (.d (.lst ds)) st ∧ ds.isEmpty = allIn w a ∧ D.nods ds = true ∧ D.deps ds ≤ 1 := by
  refine ⟨_, ev_lc (signs w) (fun x => !inS a x) (fun x => x) (by rw [evi_it, hw, R.bind_ok, keepD_d, R.bind_ok, items_str w hl, okL_some]) (by unfold signs; rw [List.length_map, Array.length_toList]; exact hl) fun x hx => ?_, ?_, ?_, ?_⟩
  · obtain ⟨c, h1, rfl⟩ := sgn_mem hx
    refine ⟨(wipeW ro own).set i (some (.d (.str ⟨#[c]⟩))), by simp only [asgT, if_pos hi], ?_, fun _ => ev_var (List.getElem?_set_self hi)⟩
    rw [ev_cmp, ev_var (List.getElem?_set_self hi), R.bind_ok, ha, R.bind_ok, opt2_dd, notin_sign, okB_some]
    rfl
  · rw [List.map_id', Bool.eq_iff_iff, List.isEmpty_iff, List.filter_eq_nil_iff]
    unfold allIn
    rw [List.all_eq_true]
    constructor
    · intro h c hc
      have := h (.str ⟨#[c]⟩) (List.mem_map.mpr ⟨c, hc, rfl⟩)
      simpa [inS] using this
    · intro h x hx
      obtain ⟨c, h1, rfl⟩ := sgn_mem hx
      simpa [inS] using h c h1
  · rw [nods_all, List.all_eq_true]
    intro x hx
    rw [List.map_id'] at hx
    obtain ⟨c, h1, rfl⟩ := sgn_mem (List.mem_filter.mp hx).1
    rfl
  · rw [List.map_id']
    have : ∀ ds : List D, (∀ x ∈ ds, ∃ c, x = D.str ⟨#[c]⟩) → D.deps ds ≤ 1 := fun ds => by
      induction ds with
      | nil => intro _; exact Nat.zero_le _
      | cons d ds ih =>
        intro h
        obtain ⟨c, rfl⟩ := h d (by simp)
        have := ih fun x hx => h x (by simp [hx])
        show max 0 (D.deps ds) ≤ 1
        omega
    exact this _ fun x hx => let ⟨c, _, e⟩ := sgn_mem (List.mem_filter.mp hx).1; ⟨c, e⟩
end
theorem index_of {a b : Str} {i : Nat} (h : Builtin.Str.occurrences a b 0 a.length 1 = [i]) : mtD .index (.str a) [.str b] = some (.int i) := by
  show (match Builtin.Str.occurrences a b 0 a.length 1 with
    | i :: _ => some (D.int (i : Nat))
    | [] => none) = _
  rw [h]
theorem fig_index (c : Nat) (h : c ∈ FIG.cps.toList) : mtD .index (.str FIG) [.str ⟨#[c]⟩] = some (.int ((c : Int) - 48)) ∧ 48 ≤ c ∧ c ≤ 57 := by
  have h' : c ∈ [48, 49, 50, 51, 52, 53, 54, 55, 56, 57] := h
  simp only [List.mem_cons, List.mem_nil_iff, or_false] at h'
  rcases h' with rfl | rfl | rfl | rfl | rfl | rfl | rfl | rfl | rfl | rfl
  · exact ⟨(index_of (i := 0) (by decide +kernel)).trans (by rfl), by decide, by decide⟩
  · exact ⟨(index_of (i := 1) (by decide +kernel)).trans (by rfl), by decide, by decide⟩
  · exact ⟨(index_of (i := 2) (by decide +kernel)).trans (by rfl), by decide, by decide⟩
  · exact ⟨(index_of (i := 3) (by decide +kernel)).trans (by rfl), by decide, by decide⟩
  · exact ⟨(index_of (i := 4) (by decide +kernel)).trans (by rfl), by decide, by decide⟩
  · exact ⟨(index_of (i := 5) (by decide +kernel)).trans (by rfl), by decide, by decide⟩
  · exact ⟨(index_of (i := 6) (by decide +kernel)).trans (by rfl), by decide, by decide⟩
  · exact ⟨(index_of (i := 7) (by decide +kernel)).trans (by rfl), by decide, by decide⟩
  · exact ⟨(index_of (i := 8) (by decide +kernel)).trans (by rfl), by decide, by decide⟩
  · exact ⟨(index_of (i := 9) (by decide +kernel)).trans (by rfl), by decide, by decide⟩
theorem int_digits (w : Str) (h : allIn w FIG = true) (h1 : 1 ≤ w.length) (h2 : w.length ≤ 640) : biD .int [.str w] = some (.int (NumText.digitsVal w.cps.toList : Nat)) := by
  have hd : NumText.AllDigits w.cps.toList := fun c hc => (fig_index c (of_decide_eq_true (List.all_eq_true.mp h c hc))).2
  show (if w.length ≤ 640 then (PySem.intText? w).map D.int else none) = _
  rw [if_pos h2, intText_digits hd (fun z => by
    have : w.length = w.cps.toList.length := by rw [Array.length_toList]; rfl
    rw [z] at this
    simp at this
    omega) (by omega)]
  rfl
end Ev
set_option Elab.async false
set_option linter.all false
set_option maxRecDepth 100000
set_option maxHeartbeats 1000000
namespace Ev
open PySem PySem.Spec PyProof.Rows L2
/-! ### the module's classes of exceptions -/
structure XT where
  /-- all classes and tuples that are named -/
  names : List Str
  own : List Str
  ini : List (Str × Str × List Str)
  sub : List (Str × Str × Bool)
  subV : List (Str × Bool)
  exm : List (Str × Str × Bool)
  fld : List (Str × Str)
  tix : List (Str × List Str)
  clc : List Str
  clm : List (Str × Str)
  cfl : List (Str × Str)
theorem look1_mem {α : Type} {x : Str} {a : α} : ∀ {l : List (Str × α)}, look1 l x = some a → (x, a) ∈ l
  | [], h => by cases h
  | (y, b) :: r, h => by
    simp only [look1] at h
    split at h
    · rename_i e; cases h; rw [e]; exact List.mem_cons_self
    · exact List.mem_cons_of_mem _ (look1_mem h)
def look2 {α : Type} : List (Str × Str × α) → Str → Str → Option α
  | [], _, _ => none
  | (y, z, a) :: r, x, u => if x = y ∧ u = z then some a else look2 r x u
theorem look2_mem {α : Type} {x u : Str} {a : α} : ∀ {l : List (Str × Str × α)}, look2 l x u = some a → (x, u, a) ∈ l
  | [], h => by cases h
  | (y, z, b) :: r, h => by
    simp only [look2] at h
    split at h
    · rename_i e; cases h; rw [e.1, e.2]; exact List.mem_cons_self
    · exact List.mem_cons_of_mem _ (look2_mem h)
def XT.mke (t : XT) (x : Str) : Option Mk := match look1 t.ini x with
  | some (f, fs) => some (.ini f fs)
  | none => if x ∈ t.own then some .own else none
def XT.subF (t : XT) (x y : Str) : Option Bool := if y = ("ValueError" : Str) then look1 t.subV x else look2 t.sub x y
def XT.fldF (t : XT) (x f : Str) : Bool := decide ((x, f) ∈ t.fld)
def XT.cflF (t : XT) (x f : Str) : Bool := decide ((x, f) ∈ t.cfl)
def XT.gt (t : XT) (con : Str → Option D) : Gt := ⟨con, fun _ => none, fun _ => none, fun _ => none, fun _ _ => none, t.cflF, look1 t.tix, t.mke, t.subF, look2 t.exm, t.fldF⟩
def ownXB (K : PySem.W.Frag) (c : Str) : Bool := PySem.W.excIn K (He.ga K c) He.veBase "ValueError.__new__" && (PySem.W.keepIn K (.ref (He.ga K c)) && (decide (PySem.W.subIn K (.ref (He.ga K c)) (.type "BaseException") = some true) && decide (PySem.W.typeIn K (.ref (He.ga K c)) = some (.type "type"))))
def iniXB (K : PySem.W.Frag) (c : Str) (fs : List Str) : Bool := oexB K (He.ga K c) && (decide (PySem.W.findIn K (.ref (He.ga K c)) "__init__" = some (some (.ref (He.ma K (He.ga K c) "__init__")))) && (decide (PySem.W.typeIn K (.ref (He.ma K (He.ga K c) "__init__")) = some (.type "function")) && fs.all fun f => decide (PySem.W.findIn K (.ref (He.ga K c)) f = some none)))
def XT.okC (K : PySem.W.Frag) (t : XT) : Bool :=
  t.clc.all (fun c => (He.Fa.cls c).ok K && (He.Fa.mkr c).ok K) && (t.clm.all (fun s => (He.Fa.meth s.1 s.2).ok K) && t.cfl.all fun s => (He.Fa.cls s.1).ok K && (He.Fa.noat s.1 s.2).ok K)
def XT.ok (K : PySem.W.Frag) (t : XT) : Bool := t.okC K && (
  t.own.all (ownXB K) && (t.ini.all (fun i => iniXB K i.1 (i.2.1 :: i.2.2)) && (t.sub.all (fun s => exCB K (He.ga K s.1) && decide (PySem.W.kitOne K (.ref (He.ga K s.1)) (.ref (He.ga K s.2.1)) = some s.2.2)) &&
    (t.subV.all (fun s => exCB K (He.ga K s.1) && decide (PySem.W.kitOne K (.ref (He.ga K s.1)) (.type "ValueError") = some s.2)) && (t.exm.all (fun s => decide (PySem.W.exmOne K (.ref (He.ga K s.1)) (.ref (He.ga K s.2.1)) = some s.2.2)) &&
      (t.fld.all (fun s => exCB K (He.ga K s.1) && decide (PySem.W.findIn K (.ref (He.ga K s.1)) s.2 = some none)) && t.tix.all fun s => He.tupB K s.1 (s.2.map He.Dv.str) && tixB K s.1))))))
def XT.wf (t : XT) : Bool := t.own.all (t.names.contains ·) && (t.ini.all (fun i => t.names.contains i.1) && (t.sub.all (fun s => t.names.contains s.2.1) && (t.exm.all (fun s => t.names.contains s.2.1) && t.tix.all fun s => t.names.contains s.1)))
structure XT.Says (t : XT) (P : Program) (w : World) (K : PySem.W.Frag) (mg : Str → Option Value) (base : Heap) : Prop where
  tix : ∀ x ys, look1 t.tix x = some ys → TixOk K mg x ys
  mke : ∀ x i, t.mke x = some i → MkOk P w K mg base x i
  sub : ∀ x y b, t.subF x y = some b → SubOk K mg x y b
  exm : ∀ x y b, look2 t.exm x y = some b → ExmOk K mg x y b
  fld : ∀ x f, t.fldF x f = true → FldOk K x f
  clc : ∀ c ∈ t.clc, L2.Cls K (He.ga K c) ∧ L2.Mk K (He.ga K c) (He.ma K (He.ga K c) "__init__")
  clm : ∀ c m, (c, m) ∈ t.clm → L2.Meth K (He.ga K c) m (He.ma K (He.ga K c) m)
  cfl : ∀ c f, t.cflF c f = true → L2.Cls K (He.ga K c) ∧ L2.NoAttr K (He.ga K c) f
theorem XT.says {t : XT} {P : Program} {w : World} {K : PySem.W.Frag} {mg : Str → Option Value} {base : Heap} (h : t.ok K = true) (hw : t.wf = true) (hg : ∀ c ∈ t.names, mg c = some (.ref (He.ga K c))) (hv : t.subV ≠ [] → mg "ValueError" = none)
    (hi : ∀ c f fs, (c, f, fs) ∈ t.ini → ∃ fd ps, FnOk P w K mg base (L2.CX P w) 1 (He.ma K (He.ga K c) "__init__") fd ps (spIni K (He.ga K c) (f :: fs)) ∧ L2.Binds K fd ps []) : t.Says P w K mg base := by
  unfold XT.ok at h
  unfold XT.wf at hw
  simp only [Bool.and_eq_true, List.all_eq_true] at h hw
  obtain ⟨h0, h1, h2, h3, h4, h5, h6, h7⟩ := h
  unfold XT.okC at h0
  simp only [Bool.and_eq_true, List.all_eq_true] at h0
  obtain ⟨j1, j2, j3⟩ := h0
  obtain ⟨w1, w2, w3, w4, w5⟩ := hw
  have nm : ∀ c, t.names.contains c = true → mg c = some (.ref (He.ga K c)) := fun c hc => hg c (by simpa using hc)
  refine ⟨fun x ys e => ?_, fun x i e => ?_, fun x y b e => ?_, fun x y b e => ?_, fun x f e => ?_, fun c hc => ?_, fun c m hc => He.meth_ok (j2 _ hc), fun c f hc => ?_⟩
  · have m := look1_mem e
    have q := h7 _ m
    refine ⟨nm _ (w5 _ m), fun H => ?_, tixB_ok q.2⟩
    have z := He.tupB_ok q.1 H
    rw [List.map_map] at z
    exact z
  · unfold XT.mke at e
    split at e
    · rename_i f fs hl
      cases e
      have m := look1_mem hl
      have q := h2 _ m
      unfold iniXB at q
      simp only [Bool.and_eq_true, decide_eq_true_eq] at q
      obtain ⟨fd, ps, k1, k2⟩ := hi _ _ _ m
      exact ⟨oexB_ok q.1, nm _ (w2 _ m), _, fd, ps, q.2.1, q.2.2.1, k1, k2⟩
    · split at e
      · rename_i hm
        cases e
        have q := h1 _ hm
        unfold ownXB at q
        simp only [Bool.and_eq_true, decide_eq_true_eq] at q
        exact ⟨q.1, q.2.1, q.2.2.1, q.2.2.2, nm _ (w1 _ hm)⟩
      · cases e
  · unfold XT.subF at e
    split at e
    · rename_i hy
      have m := look1_mem e
      have q := h4 _ m
      have q2 := of_decide_eq_true q.2
      subst hy
      exact ⟨exCB_ok q.1, .inr ⟨hv (fun z => by rw [z] at m; cases m), _, PyProof.Rows.Boot.«ValueError», by decide, q2⟩⟩
    · have m := look2_mem e
      have q := h3 _ m
      exact ⟨exCB_ok q.1, .inl ⟨nm _ (w3 _ m), of_decide_eq_true q.2⟩⟩
  · have m := look2_mem e
    exact ⟨nm _ (w4 _ m), of_decide_eq_true (h5 _ m)⟩
  · have q := h6 _ (of_decide_eq_true e)
    exact ⟨exCB_ok q.1, of_decide_eq_true q.2⟩
  · have q := j1 _ hc
    exact ⟨He.cls_ok q.1, He.mkr_ok q.2⟩
  · have q := j3 _ (of_decide_eq_true hc)
    exact ⟨He.cls_ok q.1, He.noat_ok q.2⟩
/-- an __init__ of the text -/
theorem ini_fn {P : Program} {w : World} {K : PySem.W.Frag} {mg : Str → Option Value} {base : Heap} {x qual : Str} {params : Arguments} {body : List Stmt} {scope : Scope} {fI : Addr} {fd : FuncData} {t : XT} {c bs self f p : Str} {fs ps : List Str} (F : FunD K x qual params body scope [] [] fI fd)
    (h : t.ok K = true) (hm : (c, f, fs) ∈ t.ini) (hb : exbB K (He.ga K bs) = true) (hmg : mg bs = some (.ref (He.ga K bs))) (Sc : FnScope (self :: p :: ps) (self :: p :: ps) scope) (hg : scope.names.lookup bs = some .globalImplicit) (hdb : (bs == ("__debug__" : Str)) = false)
    (hbd : iniBody bs self (f :: fs) (p :: ps) body = true) (hv : ((self :: p :: ps).all fun x => decide (scope.names.lookup x = some .local) && (!(x == ("__debug__" : Str)) && !(x == ("__classdict__" : Str)))) = true) (hl : fs.length ≤ 800) (hle : fs.length = ps.length) (hbi : L2.Binds K fd (self :: p :: ps) []) :
    ∃ fd ps, FnOk P w K mg base (L2.CX P w) 1 fI fd ps (spIni K (He.ga K c) (f :: fs)) ∧ L2.Binds K fd ps [] := by
  unfold XT.ok at h
  simp only [Bool.and_eq_true, List.all_eq_true] at h
  have q := h.2.2.1 _ hm
  unfold iniXB at q
  simp only [Bool.and_eq_true, decide_eq_true_eq, List.all_eq_true] at q
  refine ⟨fd, _, fn_ini F Sc (oexB_ok q.1) (exbB_ok hb) hg hmg hdb hbd (fun x hx => ?_) (fun x hx => q.2.2.2 x hx) hl hle, hbi⟩
  have := List.all_eq_true.mp hv x hx
  simp only [Bool.and_eq_true, decide_eq_true_eq, Bool.not_eq_true'] at this
  exact this
theorem glob_start {t : XT} {con : Str → Option D} {P : Program} {w : World} {K : PySem.W.Frag} {mg : Str → Option Value} {base : Heap} (s : t.Says P w K mg base) (hc : ∀ x d, con x = some d → ∃ v u, mg x = some u ∧ L2.RelV v u ∧ ∀ Hd, RelD K Hd v d) (hb : ∀ x ∈ blts, mg x = none) :
    Glob (t.gt con) (isXv K) P w K mg base 2 :=
  ⟨Nat.le_refl _, rfl, fun c F h => (nomatch (show (none : Option _) = some F from h)), fun c m F h => (nomatch (show (none : Option _) = some F from h)), s.cfl, s.tix, s.mke, s.sub, s.exm, s.fld, hc, hb, fun x F h => (nomatch (show (none : Option _) = some F from h)), fun x F h => (nomatch (show (none : Option _) = some F from h))⟩
/-! ### the head's look: the statics, too -/
abbrev AlY : Type := He.AlD × Bool
def frY (n : Nat) (g : Addr → Option Obj) : PySem.W.Frag := He.frT g (cStatics :: He.asD g n)
def obsY (n : Nat) (fa : List He.Fa) (fn : List He.DefD) (exf : PySem.W.Frag → Bool) (g : Addr → Option Obj) : AlY := (He.obsD fa fn (frY n g), exf (frY n g))
def hookY (n : Nat) (fa : List He.Fa) (fn : List He.DefD) (exf : PySem.W.Frag → Bool) : PySem.W.Hook where
  α := AlY
  obs := fun s => obsY n fa fn exf s.heap.get?
  val := fun _ => (He.valD fn, true)
  says := fun _ h => ∃ K : PySem.W.Frag, K.In h ∧ (He.SaysD fa fn K ∧ exf K = true)
  of := fun _ _ e => ⟨_, He.frT_in, congrArg (fun z : AlY => z.1) e, congrArg (fun z : AlY => z.2) e⟩
  keeps := fun _ _ _ ⟨K, hK, c⟩ k => ⟨K, PySem.W.Frag.In.keeps hK k, c⟩
theorem obsY_eq {n : Nat} {fa : List He.Fa} {fn : List He.DefD} {exf : PySem.W.Frag → Bool} {g : Addr → Option Obj} {s : Shared} (h : ∀ a, g a = s.heap.get? a) : obsY n fa fn exf g = (hookY n fa fn exf).obs s := by
  have e : g = s.heap.get? := funext h
  rw [e] <;> rfl
end Ev
set_option Elab.async false
set_option linter.all false
set_option maxRecDepth 100000
set_option maxHeartbeats 1000000
namespace Ev
open PySem PySem.Spec PyProof.Rows L2
/-! ### loops, for the plain laws -/
/-- a loop that ends at the first item of a kind -/
theorem forRun_first {b : Ro → Store → O} {t : T} {st : Store} {p : D → Bool} {Fr : Ro → Prop} {Fin : D → O → Prop} (hF : ∀ x o, Fin x o → ∀ f, o.turn f = o) : ∀ (xs : List D) (ro : Ro),
    (∀ x ∈ xs, ∀ ro, Fr ro → ∃ ro1, asgT t x ro = some ro1 ∧ ((p x = true ∧ Fin x (b ro1 st)) ∨ (p x = false ∧ ∃ ro2, b ro1 st = .nx ro2 st ∧ Fr ro2))) → Fr ro →
    (∃ x, xs.find? p = some x ∧ Fin x (forRun b t xs ro st)) ∨ (xs.find? p = none ∧ ∃ ro', forRun b t xs ro st = .nx ro' st ∧ Fr ro')
  | [], ro, _, hr => .inr ⟨rfl, ro, rfl, hr⟩
  | x :: xs, ro, hb, hr => by
    obtain ⟨ro1, h1, h2⟩ := hb x (by simp) ro hr
    rcases h2 with ⟨h2, h3⟩ | ⟨h2, ro2, h3, h4⟩
    · refine .inl ⟨x, by rw [List.find?_cons, h2], ?_⟩
      simp only [forRun, h1]
      rw [hF x _ h3]
      exact h3
    · have ih := forRun_first (b := b) (t := t) (st := st) (p := p) hF xs ro2 (fun y hy => hb y (by simp [hy])) h4
      simp only [forRun, h1, h3, turn_nx, List.find?_cons, h2]
      exact ih
/-- a loop that goes on, each turn changing what J tells -/
theorem forRun_all {b : Ro → Store → O} {t : T} {J : Nat → Ro → Store → Prop} : ∀ (xs : List D) (k : Nat) (ro : Ro) (st : Store),
    (∀ i x, xs[i]? = some x → ∀ ro st, J (k + i) ro st → ∃ ro1 ro2 st2, asgT t x ro = some ro1 ∧ (b ro1 st = .nx ro2 st2 ∨ b ro1 st = .cnt ro2 st2) ∧ J (k + i + 1) ro2 st2) → J k ro st →
    ∃ ro' st', forRun b t xs ro st = .nx ro' st' ∧ J (k + xs.length) ro' st'
  | [], k, ro, st, _, hj => ⟨ro, st, rfl, hj⟩
  | x :: xs, k, ro, st, hb, hj => by
    obtain ⟨ro1, ro2, st2, h1, h2, h3⟩ := hb 0 x rfl ro st hj
    obtain ⟨ro', st', h4, h5⟩ := forRun_all (b := b) (t := t) (J := J) xs (k + 1) ro2 st2 (fun i y hy ro st hj => by
      have := hb (i + 1) y (by simpa using hy) ro st (by rw [show k + (i + 1) = k + 1 + i by omega]; exact hj)
      rw [show k + (i + 1) = k + 1 + i by omega] at this
      exact this) h3
    refine ⟨ro', st', ?_, by rw [List.length_cons, show k + (xs.length + 1) = k + 1 + xs.length by omega]; exact h5⟩
    rcases h2 with h2 | h2
    · simp only [forRun, h1, h2, turn_nx]; exact h4
    · simp only [forRun, h1, h2, turn_cnt]; exact h4
section
variable {G : Gt} {ro : Ro} {st : Store}
theorem ev_callP2 {f : Str} {F : List D → Option (Except Xv D)} (hf : G.fp f = some F) {a b : M} {x y r : D} (ha : ev G a ro st = .ok (.d x) st) (hb : ev G b ro st = .ok (.d y) st) (h : F [x, y] = some (.ok r)) : ev G (.callP f (.cons a (.cons b .nil))) ro st = .ok (.d r) st := by
  simp only [ev_callP hf, evs_cons, ha, R.bind_ok, hb, evs_nil, keepAll_d, keepAll_nil, h, okE_ok]
theorem ev_callP1x {f : Str} {F : List D → Option (Except Xv D)} (hf : G.fp f = some F) {a : M} {x : D} {e : Xv} (ha : ev G a ro st = .ok (.d x) st) (h : F [x] = some (.error e)) : ev G (.callP f (.cons a .nil)) ro st = .exc e st := by
  rw [ev_callP hf, evs_cons, ha, R.bind_ok, evs_nil, R.bind_ok, R.bind_ok, keepAll_d, keepAll_nil, R.bind_ok, R.bind_ok, h, okE_err]
theorem ev_callP2x {f : Str} {F : List D → Option (Except Xv D)} (hf : G.fp f = some F) {a b : M} {x y : D} {e : Xv} (ha : ev G a ro st = .ok (.d x) st) (hb : ev G b ro st = .ok (.d y) st) (h : F [x, y] = some (.error e)) : ev G (.callP f (.cons a (.cons b .nil))) ro st = .exc e st := by
  simp only [ev_callP hf, evs_cons, ha, R.bind_ok, hb, evs_nil, keepAll_d, keepAll_nil, h, okE_err]
theorem ex_raise {c : Str} {es : Ms} {k : Mk} {ds : List D} {ks : List Str} {xs : List D} (hk : G.mke c = some k) (he : evs G es ro st = .ok (ds.map W.d) st) (hm : mkD c k ds = some (.exv c ks xs)) : ex G (.raise_ c es) ro st = .exc ⟨c, ks, xs⟩ ro st := by
  have kA : ∀ ds : List D, keepAll (ds.map W.d) st = .ok ds st := fun ds => by
    induction ds with
    | nil => rfl
    | cons d ds ih => rw [List.map_cons, keepAll_d, ih, R.bind_ok]
  simp only [ex, hk, he, R.o_ok, kA, hm, flyD]
end
@[simp] theorem tryk_nx {G : Gt} {y : Str} {i j : Nat} {ro : Ro} {st : Store} (h : G.exm y y = some true) : O.tryk G y i j (.nx ro st) = .nx ro st := by simp only [O.tryk, if_pos h]
theorem tryk_exc {G : Gt} {y : Str} {i j : Nat} {ro : Ro} {st : Store} {x : Xv} (h : G.exm y y = some true) (h2 : G.exm x.cls y = some true) (hl : i < ro.length ∧ j < ro.length) :
    O.tryk G y i j (.exc x ro st) = .nx (((ro.set i (some (.d (.exv x.cls x.ks x.xs)))).set j (some (.d (.exv x.cls x.ks x.xs)))).set i none) st := by simp only [O.tryk, if_pos h, h2, if_pos hl]
theorem ex_expr {G : Gt} {ro : Ro} {st : Store} (e : M) : ex G (.expr e) ro st = (ev G e ro st).o ro fun _ st1 => .nx ro st1 := by simp only [ex]
theorem ex_tryk {G : Gt} {b : Ss} {y : Str} {i j : Nat} {ro : Ro} {st : Store} : ex G (.tryk b y i j) ro st = O.tryk G y i j (exs G b ro st) := by simp only [ex]
/-! ### repr of what is not great -/
structure Nice (b k : Nat) (d : D) : Prop where
  nod : D.nod d = true
  sh : d.py.showable = true
  lf : d.py.leavesShort 200 = true
  bu : d.py.bulk ≤ b
  dp : d.py.depth ≤ k
theorem Nice.mono {b k b' k' : Nat} {d : D} (h : Nice b k d) (hb : b ≤ b') (hk : k ≤ k') : Nice b' k' d := ⟨h.nod, h.sh, h.lf, Nat.le_trans h.bu hb, Nat.le_trans h.dp hk⟩
theorem nice_non : Nice 0 0 .non := ⟨rfl, rfl, rfl, Nat.le_refl _, Nat.le_refl _⟩
theorem nice_bl (b : Bool) : Nice 0 0 (.bl b) := ⟨rfl, rfl, rfl, Nat.le_refl _, Nat.le_refl _⟩
theorem nice_int {i : Int} (h : i.natAbs < 10 ^ 100) : Nice 0 0 (.int i) := by
  refine ⟨rfl, ?_, ?_, Nat.le_refl _, Nat.le_refl _⟩
  · show decide (i.natAbs.log2 < 1920) = true
    exact decide_eq_true (Nat.lt_trans (log2_lt (k := 400) (Nat.lt_trans h (by decide +kernel)) (by decide)) (by decide))
  · show decide ((Str.ofString (toString i)).length ≤ 200) = true
    rw [PySem.ofString_length]
    exact decide_eq_true (Nat.le_trans (int_text_length_le10 (k := 100) (by decide) h) (by decide))
theorem nice_str {s : Str} {n : Nat} (h : s.length ≤ n) (hc : ∀ c ∈ s.cps.toList, c < 16 ^ 8) : Nice n 0 (.str s) := by
  refine ⟨rfl, rfl, ?_, h, Nat.le_refl _⟩
  show (s.cps.toList.all fun c => decide (c < 16 ^ 8)) = true
  rw [List.all_eq_true]
  exact fun c hc' => decide_eq_true (hc c hc')
theorem nice_alls {b k : Nat} : ∀ ds : List D, (∀ d ∈ ds, Nice b k d) → D.nods ds = true ∧ PyData.showableAll (D.pys ds) = true ∧ PyData.leavesShortAll 200 (D.pys ds) = true ∧ PyData.bulkAll (D.pys ds) ≤ ds.length * (b + 1) ∧ PyData.depthAll (D.pys ds) ≤ k
  | [], _ => ⟨rfl, rfl, rfl, by simp [PyData.bulkAll, D.pys], by simp [PyData.depthAll, D.pys]⟩
  | d :: ds, h => by
    have a := h d (by simp)
    obtain ⟨b1, b2, b3, b4, b5⟩ := nice_alls ds fun x hx => h x (by simp [hx])
    refine ⟨?_, ?_, ?_, ?_, ?_⟩
    · rw [D.nods, a.nod, b1]; rfl
    · show (d.py.showable && PyData.showableAll (D.pys ds)) = true
      rw [a.sh, b2]; rfl
    · show (d.py.leavesShort 200 && PyData.leavesShortAll 200 (D.pys ds)) = true
      rw [a.lf, b3]; rfl
    · show d.py.bulk + 1 + PyData.bulkAll (D.pys ds) ≤ _
      have := a.bu
      rw [List.length_cons, Nat.succ_mul]
      omega
    · show max d.py.depth (PyData.depthAll (D.pys ds)) ≤ k
      exact Nat.max_le.mpr ⟨a.dp, b5⟩
theorem nice_lst {b k n : Nat} {ds : List D} (h : ∀ d ∈ ds, Nice b k d) (hl : ds.length ≤ n) : Nice (n * (b + 1)) (k + 1) (.lst ds) := by
  obtain ⟨b1, b2, b3, b4, b5⟩ := nice_alls ds h
  exact ⟨b1, b2, b3, Nat.le_trans b4 (Nat.mul_le_mul_right _ hl), Nat.succ_le_succ b5⟩
theorem nice_tup {b k n : Nat} {ds : List D} (h : ∀ d ∈ ds, Nice b k d) (hl : ds.length ≤ n) : Nice (n * (b + 1)) (k + 1) (.tup ds) := by
  obtain ⟨b1, b2, b3, b4, b5⟩ := nice_alls ds h
  exact ⟨b1, b2, b3, Nat.le_trans b4 (Nat.mul_le_mul_right _ hl), Nat.succ_le_succ b5⟩
theorem repr_nice {d : D} (h : Nice 4000 50 d) : biD .repr [d] = some (.str d.py.shown) := by
  refine if_pos ⟨h.nod, h.sh, ?_, Nat.le_trans h.dp (by decide)⟩
  have := PyData.shown_le_bulk 200 (by decide) d.py h.lf
  have hb := h.bu
  rw [sizeLine_eq]
  omega
theorem ev_repr {G : Gt} {ro : Ro} {st : Store} {a : M} {x : D} (ha : ev G a ro st = .ok (.d x) st) (h : Nice 4000 50 x) : ev G (.bi .repr (.cons a .nil)) ro st = .ok (.d (.str x.py.shown)) st := ev_bi1 ha (repr_nice h)
/-- repr(a) != repr(b) of the same -/
theorem ev_reprNe {G : Gt} {ro : Ro} {st : Store} {a b : M} {x : D} (ha : ev G a ro st = .ok (.d x) st) (hb : ev G b ro st = .ok (.d x) st) (h : Nice 4000 50 x) :
    ev G (.cmp .NotEq (.bi .repr (.cons a .nil)) (.bi .repr (.cons b .nil))) ro st = .ok (.d (.bl false)) st :=
  ev_cmp_d (ev_repr ha h) (ev_repr hb h) (by rw [cmp_neS]; simp)
theorem ev_reprEq {G : Gt} {ro : Ro} {st : Store} {a b : M} {x : D} (ha : ev G a ro st = .ok (.d x) st) (hb : ev G b ro st = .ok (.d x) st) (h : Nice 4000 50 x) :
    ev G (.cmp .Eq (.bi .repr (.cons a .nil)) (.bi .repr (.cons b .nil))) ro st = .ok (.d (.bl true)) st :=
  ev_cmp_d (ev_repr ha h) (ev_repr hb h) (by rw [cmp_eqS]; simp)
/-- a == b of the same -/
theorem ev_eqSelf {G : Gt} {ro : Ro} {st : Store} {a b : M} {x : D} (ha : ev G a ro st = .ok (.d x) st) (hb : ev G b ro st = .ok (.d x) st) (h : D.nod x = true) (k : D.dep x ≤ 60) :
    ev G (.cmp .Eq a b) ro st = .ok (.d (.bl true)) st := ev_cmp_d ha hb (eqD_self x h k)
theorem evs_len {G : Gt} {ro : Ro} {st : Store} : True := trivial
end Ev
set_option Elab.async false
set_option linter.all false
set_option maxRecDepth 100000
set_option maxHeartbeats 1000000
namespace Ev
open PySem PySem.Spec PyProof.Rows L2
/-! ### the laws' own drawing of digits -/
def mixedB : Ss := (.cons (.set 2 (.bin .Add (.bin .Add (.bin .Mod (.var 0) (.sub (.lst (.cons (.int 1000000007) (.cons (.int 998244353) (.cons (.int 2147483629) (.cons (.int 1000000009) .nil))))) (.bin .Mod (.var 1) (.int 4)))) (.bin .Mult (.int 7919) (.var 1))) (.int 13))) (.cons (.ret (.bin .Mod (.bin .Mult (.bin .Mod (.bin .Mult (.var 2) (.var 2)) (.int 2147483647)) (.int 48271)) (.int 2147483647))) .nil))
def mixedF (G : Gt) : List D → Option (Except Xv D) := runP G 3 2 mixedB
theorem mixed_ok (Gm : Gt) (c k : Int) (hk : -(2 ^ 64) < k ∧ k < 2 ^ 64) : ∃ m : Int, mixedF Gm [.int c, .int k] = some (.ok (.int m)) ∧ 0 ≤ m ∧ m < 2147483647 := by
  have s1 : Sm 7919 := sm_of (by omega)
  have s2 : Sm k := sm_of (by omega)
  have s3 : Sm 48271 := sm_of (by omega)
  have h4 : ∃ q : Int, L2.atI [D.int 1000000007, D.int 998244353, D.int 2147483629, D.int 1000000009] (k % 4) = some (.int q) ∧ 0 < q ∧ q < 2 ^ 32 := by
    have h4 : k % 4 = 0 ∨ k % 4 = 1 ∨ k % 4 = 2 ∨ k % 4 = 3 := by omega
    rcases h4 with h | h | h | h <;> rw [h]
    · exact ⟨1000000007, rfl, by decide, by decide⟩
    · exact ⟨998244353, rfl, by decide, by decide⟩
    · exact ⟨2147483629, rfl, by decide, by decide⟩
    · exact ⟨1000000009, rfl, by decide, by decide⟩
  obtain ⟨q, hq, q1, q2⟩ := h4
  have m0 := Int.emod_nonneg c (Int.ne_of_gt q1)
  have m1 := Int.emod_lt_of_pos c q1
  have n1 : Sm (c % q + 7919 * k + 13) := sm_of (by omega)
  have e0 := Int.emod_nonneg ((c % q + 7919 * k + 13) * (c % q + 7919 * k + 13)) (b := 2147483647) (by decide)
  have e1 := Int.emod_lt_of_pos ((c % q + 7919 * k + 13) * (c % q + 7919 * k + 13)) (b := 2147483647) (by decide)
  have n2 : Sm ((c % q + 7919 * k + 13) * (c % q + 7919 * k + 13) % 2147483647) := sm_of (by omega)
  refine ⟨(c % q + 7919 * k + 13) * (c % q + 7919 * k + 13) % 2147483647 * 48271 % 2147483647, ?_, Int.emod_nonneg _ (by decide), Int.emod_lt_of_pos _ (by decide)⟩
  have x4 : ixD (.lst [D.int 1000000007, D.int 998244353, D.int 2147483629, D.int 1000000009]) (.int (k % 4)) = some (.int q) := hq
  simp [mixedF, runP, mixedB, ini, exs, ex, ev, evs, setRo, bin_mod, bin_mul, x4, q1, s1, s2, s3, n1, n2]
def drawB : Ss := (.cons (.ret (.dic ["left", "cell", "turns"] (.cons (.ite (.cmp .GtE (.var 0) (.bin .Pow (.int 10) (.int 18))) (.var 0) (.int 0)) (.cons (.var 0) (.cons (.bin .Mult (.int 1000) (.var 1)) .nil))))) .nil)
def drawF (G : Gt) : List W → Store → R W := runS G 2 2 drawB
theorem draw_ok (Gd : Gt) (c k : Int) (hk : -(2 ^ 64) < k ∧ k < 2 ^ 64) (st : Store) : drawF Gd [.d (.int c), .d (.int k)] st = .ok (.cell st.length) (st ++ [drc (if 10 ^ 18 ≤ c then c else 0) c (1000 * k)]) := by
  have s1 : Sm 1000 := sm_of (by omega)
  have s2 : Sm k := sm_of (by omega)
  have p := bin_pow 10 18 (by decide) (by decide)
  have p' : binD .Pow (.int 10) (.int 18) = some (.int (10 ^ 18)) := p
  by_cases h : (1000000000000000000 : Int) ≤ c <;>
  simp [drawF, runS, drawB, ini, exs, ex, ev, evs, bin_mul, s1, s2, p', h, drc]
def dbody : Ss := (.cons (.dput (.var 0) (.str "turns") (.bin .Add (.dget (.var 0) (.str "turns")) (.int 1))) (.cons (.dput (.var 0) (.str "left") (.bin .Add (.bin .Mult (.dget (.var 0) (.str "left")) (.int 2147483647)) (.callP "_law_mixed" (.cons (.dget (.var 0) (.str "cell")) (.cons (.dget (.var 0) (.str "turns")) .nil))))) .nil))
theorem dbody_ok {G Gm : Gt} (hG : G.fp "_law_mixed" = some (mixedF Gm)) {ro : Ro} {st : Store} {n : Nat} {l c t : Int} (h0 : ro[0]? = some (some (.cell n))) (h : st[n]? = some (drc l c t)) (hl : 0 ≤ l ∧ l < 2 ^ 200) (ht : 0 ≤ t ∧ t < 2 ^ 60) :
    ∃ l' : Int, exs G dbody ro st = .nx ro ((st.set n (drc l c (t + 1))).set n (drc l' c (t + 1))) ∧ 0 ≤ l' ∧ l' < l * 2147483647 + 2147483647 := by
  obtain ⟨m, hm, m0, m1⟩ := mixed_ok Gm c (t + 1) (by omega)
  have s1 : Sm l := sm_of (by omega)
  have s2 : Sm 2147483647 := sm_of (by omega)
  have h1 := set_at (b := drc l c (t + 1)) h
  refine ⟨l * 2147483647 + m, ?_, by omega, by omega⟩
  unfold dbody
  simp only [exs]
  rw [put_turns h (x := t + 1) (by simp only [ev, h0]) (by simp [ev, h0, dr_turns h])]
  simp only [O.then_nx]
  rw [put_left h1 (x := l * 2147483647 + m) (by simp only [ev, h0]) (by simp [ev, evs, h0, dr_turns h1, dr_left h1, dr_cell h1, bin_mul, s1, s2, hG, hm])]
  simp only [O.then_nx]
theorem dloop_ok {G Gm : Gt} (hG : G.fp "_law_mixed" = some (mixedF Gm)) {n : Nat} {c : Int} : ∀ (xs : List D) (ro : Ro) (st : Store) (l t : Int), ro[0]? = some (some (.cell n)) → ro.length = 4 → st[n]? = some (drc l c t) → 0 ≤ l → (l + 1) * 2 ^ (31 * xs.length) ≤ 2 ^ 190 → 0 ≤ t → t + xs.length < 2 ^ 60 →
    ∃ ro' st' l', forRun (exs G dbody) (.nm 2) xs ro st = .nx ro' st' ∧ ro'[0]? = ro[0]? ∧ ro'[1]? = ro[1]? ∧ ro'.length = 4 ∧ st'[n]? = some (drc l' c (t + xs.length)) ∧ 0 ≤ l' ∧ Oth n st st'
  | [], ro, st, l, t, h0, hr, h, hl, hb, ht, htb => ⟨ro, st, l, rfl, rfl, rfl, hr, by simpa using h, hl, Oth.refl⟩
  | x :: xs, ro, st, l, t, h0, hr, h, hl, hb, ht, htb => by
    have hp : (1 : Int) ≤ 2 ^ (31 * xs.length) := by
      have : 0 < (2 : Int) ^ (31 * xs.length) := Int.pow_pos (by decide)
      omega
    have hx : (2 : Int) ^ (31 * (x :: xs).length) = 2 ^ 31 * 2 ^ (31 * xs.length) := by
      rw [List.length_cons, Nat.mul_succ, Nat.add_comm, Int.pow_add]
    rw [hx] at hb
    have hl2 : l < 2 ^ 200 := by
      have : (l + 1) * 1 ≤ (l + 1) * (2 ^ 31 * 2 ^ (31 * xs.length)) := Int.mul_le_mul_of_nonneg_left (by omega) (by omega)
      omega
    have htb' : t + (xs.length : Int) + 1 < 2 ^ 60 := by
      have : ((x :: xs).length : Int) = xs.length + 1 := by simp
      omega
    obtain ⟨l', hd, d0, d1⟩ := dbody_ok hG (ro := ro.set 2 (some (.d x))) (l := l) (t := t) (by rw [List.getElem?_set_ne (by decide)]; exact h0) h ⟨hl, hl2⟩ ⟨ht, by omega⟩
    have hs := set_at (b := drc l' c (t + 1)) (set_at (b := drc l c (t + 1)) h)
    have hb' : (l' + 1) * 2 ^ (31 * xs.length) ≤ 2 ^ 190 := by
      refine Int.le_trans ?_ hb
      rw [← Int.mul_assoc]
      exact Int.mul_le_mul_of_nonneg_right (by omega) (by omega)
    obtain ⟨ro', st', l2, e, r0, r1, rl, h2, h3, h4⟩ := dloop_ok hG xs (ro.set 2 (some (.d x))) _ l' (t + 1) (by rw [List.getElem?_set_ne (by decide)]; exact h0) (by simpa using hr) hs d0 hb' (by omega) (by omega)
    refine ⟨ro', st', l2, ?_, ?_, ?_, rl, ?_, h3, Oth.trans (Oth.trans Oth.set Oth.set) h4⟩
    · have ha : asgT (.nm 2) x ro = some (ro.set 2 (some (.d x))) := by simp [asgT, hr]
      simp only [forRun, ha, hd, turn_nx, e]
    · rw [r0, List.getElem?_set_ne (by decide)]
    · rw [r1, List.getElem?_set_ne (by decide)]
    · rw [h2]
      congr 2
      simp
      omega
def digitB : Ss := (.cons (.iff (.cmp .Eq (.dget (.var 0) (.str "left")) (.int 0)) (.cons (.for_ (.nm 2) (.rng1 (.int 4)) dbody) .nil) .nil) (.cons (.set 3 (.bin .Mod (.dget (.var 0) (.str "left")) (.var 1))) (.cons (.dput (.var 0) (.str "left") (.bin .FloorDiv (.dget (.var 0) (.str "left")) (.var 1))) (.cons (.ret (.var 3)) .nil))))
def digitF (G : Gt) : List W → Store → R W := runS G 4 2 digitB
theorem digit_ok {G Gm : Gt} (hG : G.fp "_law_mixed" = some (mixedF Gm)) {st : Store} {n : Nat} {T : Int} (many : Int) (h : Drw st n T) (hm : 0 < many ∧ many < 2 ^ 60) (hT : T < 2 ^ 50) :
    ∃ d st', digitF G [.cell n, .d (.int many)] st = .ok (.d (.int d)) st' ∧ 0 ≤ d ∧ d < many ∧ Drw st' n (T + 4) ∧ Oth n st st' := by
  obtain ⟨l, c, t, h, hl, ht, hT'⟩ := h
  have tail : ∀ (ro : Ro) (st : Store) (l t : Int), ro[0]? = some (some (.cell n)) → ro[1]? = some (some (.d (.int many))) → ro.length = 4 → st[n]? = some (drc l c t) → 0 ≤ l → exs G (.cons (.set 3 (.bin .Mod (.dget (.var 0) (.str "left")) (.var 1))) (.cons (.dput (.var 0) (.str "left") (.bin .FloorDiv (.dget (.var 0) (.str "left")) (.var 1))) (.cons (.ret (.var 3)) .nil))) ro st =
      .ret (.d (.int (l % many))) (st.set n (drc (l / many) c t)) := by
    intro ro st l t h0 h1 hr h hl
    have e0 : (ro.set 3 (some (W.d (.int (l % many)))))[0]? = some (some (.cell n)) := by rw [List.getElem?_set_ne (by decide)]; exact h0
    have e1 : (ro.set 3 (some (W.d (.int (l % many)))))[1]? = some (some (.d (.int many))) := by rw [List.getElem?_set_ne (by decide)]; exact h1
    have e3 : (ro.set 3 (some (W.d (.int (l % many)))))[3]? = some (some (W.d (.int (l % many)))) := by rw [List.getElem?_set_self (by omega)]
    have s : ex G (.set 3 (.bin .Mod (.dget (.var 0) (.str "left")) (.var 1))) ro st = .nx (ro.set 3 (some (W.d (.int (l % many))))) st := by
      rw [ex_set, ev_bin, ev_dget, ev_var h0, R.bind_ok, ev_str, R.bind_ok, dr_left h, okD_some, R.bind_ok, ev_var h1, R.bind_ok, opt2_dd, bin_mod _ _ hm.1, okD_some, R.o_ok, setRo_ok' (by omega)]
    simp only [exs]
    rw [s, O.then_nx, put_left h (x := l / many) (by simp only [ev, e0]) (by rw [ev_bin, ev_dget, ev_var e0, R.bind_ok, ev_str, R.bind_ok, dr_left h, okD_some, R.bind_ok, ev_var e1, R.bind_ok, opt2_dd, bin_fdiv _ _ hm.1 (by omega), okD_some])]
    rw [O.then_nx, ex_ret, ev_var e3, R.o_ok, then_ret]
  unfold digitF runS
  rw [if_pos (show [W.cell n, W.d (D.int many)].length = 2 from rfl)]
  have b : digitB = .cons (.iff (.cmp .Eq (.dget (.var 0) (.str "left")) (.int 0)) (.cons (.for_ (.nm 2) (.rng1 (.int 4)) dbody) .nil) .nil) (.cons (.set 3 (.bin .Mod (.dget (.var 0) (.str "left")) (.var 1))) (.cons (.dput (.var 0) (.str "left") (.bin .FloorDiv (.dget (.var 0) (.str "left")) (.var 1))) (.cons (.ret (.var 3)) .nil))) := rfl
  rw [b]
  have i0 : ini 4 [.cell n, .d (.int many)] = [some (.cell n), some (.d (.int many)), none, none] := rfl
  rw [i0, exs]
  by_cases z : l = 0
  · subst z
    have c0 : ev G (.cmp .Eq (.dget (.var 0) (.str "left")) (.int 0)) [some (.cell n), some (.d (.int many)), none, none] st = .ok (.d (.bl true)) st := by
      simp [ev, dr_left h]
    obtain ⟨ro', st', l2, e, r0, r1, rl, h2, h3, h4⟩ := dloop_ok hG (n := n) (c := c) (Ev.intsFrom 0 4) [some (.cell n), some (.d (.int many)), none, none] st 0 t rfl rfl h (by decide) (by decide) ht (by show t + ((4 : Nat) : Int) < _; omega)
    have q := tail ro' st' l2 (t + 4) (r0.trans rfl) (r1.trans rfl) rl h2 h3
    refine ⟨l2 % many, st'.set n (drc (l2 / many) c (t + 4)), ?_, Int.emod_nonneg _ (by omega), Int.emod_lt_of_pos _ hm.1, ⟨_, c, t + 4, set_at h2, Int.ediv_nonneg h3 (by omega), by omega, by omega⟩, h4.trans Oth.set⟩
    have fr : ex G (.for_ (.nm 2) (.rng1 (.int 4)) dbody) [some (.cell n), some (.d (.int many)), none, none] st = .nx ro' st' := by
      have ei : evi G (.rng1 (.int 4)) [some (.cell n), some (.d (.int many)), none, none] st = .ok (Ev.intsFrom 0 4) st := by simp [evi, ev]
      rw [ex, ei, R.o_ok, e]
    rw [ex, c0, to_bl]
    simp only [if_true]
    rw [exs, fr, O.then_nx, exs, O.then_nx, q, outS_ret]
  · have c0 : ev G (.cmp .Eq (.dget (.var 0) (.str "left")) (.int 0)) [some (.cell n), some (.d (.int many)), none, none] st = .ok (.d (.bl false)) st := by
      simp [ev, dr_left h, z]
    have q := tail [some (.cell n), some (.d (.int many)), none, none] st l t rfl rfl rfl h hl
    refine ⟨l % many, st.set n (drc (l / many) c t), ?_, Int.emod_nonneg _ (by omega), Int.emod_lt_of_pos _ hm.1, ⟨_, c, t, set_at h, Int.ediv_nonneg hl (by omega), ht, by omega⟩, Oth.set⟩
    rw [ex, c0, to_bl]
    simp only [Bool.false_eq_true, if_false]
    rw [exs, O.then_nx, q, outS_ret]

/-! ### comprehensions that change the store -/
theorem lcRun_all {fe : Ro → Store → R W} {t : T} {ro : Ro} {J : Nat → Store → List D → Prop} : ∀ (xs : List D) (k : Nat) (st : Store) (acc : List D),
    (∀ i x, xs[i]? = some x → ∀ st acc, J (k + i) st acc → ∃ ro1 d st2, asgT t x ro = some ro1 ∧ fe ro1 st = .ok (.d d) st2 ∧ J (k + i + 1) st2 (acc ++ [d])) → J k st acc →
    ∃ ds st', lcRun (fun _ st => .ok (.d (.bl true)) st) fe t ro xs st acc = .ok ds st' ∧ J (k + xs.length) st' ds
  | [], k, st, acc, _, hj => ⟨acc, st, rfl, hj⟩
  | x :: xs, k, st, acc, hb, hj => by
    obtain ⟨ro1, d, st2, h1, h2, h3⟩ := hb 0 x rfl st acc hj
    obtain ⟨ds, st', h4, h5⟩ := lcRun_all (fe := fe) (t := t) (ro := ro) (J := J) xs (k + 1) st2 (acc ++ [d]) (fun i y hy st acc hj => by
      have := hb (i + 1) y (by simpa using hy) st acc (by rw [show k + (i + 1) = k + 1 + i by omega]; exact hj)
      rw [show k + (i + 1) = k + 1 + i by omega] at this
      exact this) h3
    refine ⟨ds, st', ?_, by rw [List.length_cons, show k + (xs.length + 1) = k + 1 + xs.length by omega]; exact h5⟩
    simp only [lcRun, h1, tst_bl, if_true, h2, R.bind_ok, keepD_d]
    exact h4
theorem ev_lcS {G : Gt} {own : List Nat} {t : T} {it : I} {e : M} {ro : Ro} {st st1 : Store} {J : Nat → Store → List D → Prop} {items : List D} (hi : evi G it ro st = .ok items st1) (hl : items.length ≤ 1000000)
    (hb : ∀ i x, items[i]? = some x → ∀ st acc, J i st acc → ∃ ro1 d st2, asgT t x (wipeW ro own) = some ro1 ∧ ev G e ro1 st = .ok (.d d) st2 ∧ J (i + 1) st2 (acc ++ [d])) (hj : J 0 st1 []) :
    ∃ ds st', ev G (.lc own t it (.bl true) e) ro st = .ok (.d (.lst ds)) st' ∧ J items.length st' ds := by
  obtain ⟨ds, st', h1, h2⟩ := lcRun_all (fe := ev G e) (t := t) (ro := wipeW ro own) (J := J) items 0 st1 [] (fun i x hx st acc hj => by
    rw [Nat.zero_add] at hj ⊢
    exact hb i x hx st acc hj) hj
  rw [Nat.zero_add] at h2
  refine ⟨ds, st', ?_, h2⟩
  have : (fun (ro : Ro) (st : Store) => (R.ok (.d (.bl true)) st : R W)) = ev G (.bl true) := by funext ro st; simp only [ev]
  rw [this] at h1
  simp only [ev, hi, R.bind_ok]
  simp only [ev] at h1
  rw [h1]
  simp [hl]
theorem ev_callS2 {G : Gt} {ro : Ro} {st st1 st2 st3 : Store} {f : Str} {F : List W → Store → R W} (hf : G.fs f = some F) {a b : M} {x y w : W} (ha : ev G a ro st = .ok x st1) (hb : ev G b ro st1 = .ok y st2) (h : F [x, y] st2 = .ok w st3) : ev G (.callS f (.cons a (.cons b .nil))) ro st = .ok w st3 := by
  simp only [ev_callS hf, evs_cons, ha, R.bind_ok, hb, evs_nil, h]
/-! ### a law's cells -/
theorem ix_mem {ds : List D} {d : Int} (h0 : 0 ≤ d) (h1 : d < ds.length) : ∃ v, ixD (.lst ds) (.int d) = some v ∧ ds[d.toNat]? = some v ∧ v ∈ ds := by
  have hl : d.toNat < ds.length := by omega
  refine ⟨ds[d.toNat], ?_, List.getElem?_eq_getElem hl, List.getElem_mem hl⟩
  show L2.atI ds d = _
  unfold L2.atI
  have : L2.ixN ds.length d = some d.toNat := by
    unfold L2.ixN
    rw [if_pos h0, if_pos (by omega)]
  rw [this]
  exact List.getElem?_eq_getElem hl
theorem ix_memT {ds : List D} {d : Int} (h0 : 0 ≤ d) (h1 : d < ds.length) : ∃ v, ixD (.tup ds) (.int d) = some v ∧ ds[d.toNat]? = some v ∧ v ∈ ds := ix_mem h0 h1
/-- a digit -/
theorem ev_digit {G Gd Gm : Gt} (hf : G.fs "_law_digit" = some (digitF Gd)) (hm : Gd.fp "_law_mixed" = some (mixedF Gm)) {ro : Ro} {st : Store} {i n : Nat} {T many : Int} {m : M} (h : ro[i]? = some (some (.cell n))) (he : ev G m ro st = .ok (.d (.int many)) st) (hd : Drw st n T) (hm2 : 0 < many ∧ many < 2 ^ 60) (hT : T < 2 ^ 50) :
    ∃ d st', ev G (.callS "_law_digit" (.cons (.var i) (.cons m .nil))) ro st = .ok (.d (.int d)) st' ∧ 0 ≤ d ∧ d < many ∧ Drw st' n (T + 4) ∧ Oth n st st' := by
  obtain ⟨d, st', h1, h2, h3, h4, h5⟩ := digit_ok hm many hd hm2 hT
  exact ⟨d, st', ev_callS2 hf (ev_var h) he h1, h2, h3, h4, h5⟩
theorem drw_new (st : Store) (c k : Int) (hk : 0 ≤ k ∧ k < 64) : Drw (st ++ [drc (if 10 ^ 18 ≤ c then c else 0) c (1000 * k)]) st.length 64000 := by
  refine ⟨if 10 ^ 18 ≤ c then c else 0, c, 1000 * k, by simp, ?_, by omega, by omega⟩
  split
  · rename_i h
    have : (0 : Int) ≤ 10 ^ 18 := by decide
    omega
  · exact Int.le_refl 0
theorem ev_draw {G Gd : Gt} (hf : G.fs "_law_draw" = some (drawF Gd)) {ro : Ro} {st : Store} {i j : Nat} {c k : Int} (h1 : ro[i]? = some (some (.d (.int c)))) (h2 : ro[j]? = some (some (.d (.int k)))) (hk : 0 ≤ k ∧ k < 64) :
    ∃ st1, ev G (.callS "_law_draw" (.cons (.var i) (.cons (.var j) .nil))) ro st = .ok (.cell st.length) st1 ∧ Drw st1 st.length 64000 :=
  ⟨_, ev_callS2 hf (ev_var h1) (ev_var h2) (draw_ok Gd c k (by omega) st), drw_new st c k hk⟩
def cellsM (N : Int) : M := .bin .Add (.slc (.var 0) .absent (.int N)) (.lst (.cons (.bi .sum (.cons (.var 0) .nil)) .nil))
theorem cells_ok {G : Gt} {ro : Ro} {st : Store} {ns : List Int} (N : Int) (hl : ns.length ≤ 63) (h : ro[0]? = some (some (.d (.scr ns)))) : ∃ cs : List Int, cs.length ≤ 64 ∧ ev G (cellsM N) ro st = .ok (.d (.lst (cs.map .int))) st := by
  have v0 : ev G (.var 0) ro st = .ok (.d (.scr ns)) st := ev_var h
  have e1 : ev G (.slc (.var 0) .absent (.int N)) ro st = .ok (.d (.lst ((cutG ns none (some N)).map .int))) st := by
    rw [ev_slc0, v0, R.bind_ok, peek_d]; rfl
  have hc : (cutG ns none (some N)).length ≤ 63 := by
    unfold cutG
    rw [List.length_take, List.length_drop]
    omega
  refine ⟨cutG ns none (some N) ++ [ns.sum], by simp; omega, ?_⟩
  unfold cellsM
  rw [ev_bin_d e1 (ev_lst_d (ds := [.int ns.sum]) (evs_d (ev_bi1 v0 (sum_scr ns)) evs_0) (by simp)) (bin_addL _ _ (by simp; omega)), List.map_append]
  rfl
/-- for k, cell in enumerate(script[:N] + [sum(script)]): .. / return True -/
theorem law_for {G : Gt} {L : Nat} {body : Ss} {N : Int} {ns : List Int} (hl : ns.length ≤ 63) (hL : 3 ≤ L)
    (turn : ∀ (i : Nat) (c : Int) (ro : Ro) (st : Store), i < 64 → ro.length = L → ∃ ro2 st2, exs G body ((ro.set 1 (some (.d (.int i)))).set 2 (some (.d (.int c)))) st = .nx ro2 st2 ∧ ro2.length = L) :
    runP G L 1 (.cons (.for_ (.cons (.nm 1) (.cons (.nm 2) .nil)) (.enm (cellsM N)) body) (.cons (.ret (.bl true)) .nil)) [.scr ns] = some (.ok (.bl true)) := by
  unfold runP
  rw [if_pos (by rfl)]
  have h0 : (ini L ([D.scr ns].map W.d))[0]? = some (some (.d (.scr ns))) := by simp [ini]
  have hlen : (ini L ([D.scr ns].map W.d)).length = L := by simp [ini]; omega
  obtain ⟨cs, hcs, ec⟩ := cells_ok (G := G) (st := []) N hl h0
  have ei : evi G (.enm (cellsM N)) (ini L ([D.scr ns].map W.d)) [] = .ok (enumFrom 0 (cs.map .int)) [] := by
    simp only [evi, ec, R.bind_ok, keepD_d]; rfl
  have at_ : ∀ (cs : List Int) (k i : Nat) (x : D), (enumFrom k (cs.map D.int))[i]? = some x → ∃ c, x = .tup [.int ((k + i : Nat) : Int), .int c] := by
    intro cs
    induction cs with
    | nil => intro k i x h; cases h
    | cons c cs ih =>
      intro k i x h
      cases i with
      | zero => cases h; exact ⟨c, rfl⟩
      | succ i =>
        obtain ⟨c', e⟩ := ih (k + 1) i x (by simpa [enumFrom] using h)
        exact ⟨c', by rw [e, show k + 1 + i = k + (i + 1) by omega]⟩
  obtain ⟨ro', st', h1, h2⟩ := forRun_all (b := exs G body) (t := .cons (.nm 1) (.cons (.nm 2) .nil)) (J := fun k ro _ => ro.length = L) (enumFrom 0 (cs.map .int)) 0 (ini L ([D.scr ns].map W.d)) []
    (fun i x hx ro st hr => by
      obtain ⟨c, rfl⟩ := at_ cs 0 i x hx
      rw [Nat.zero_add]
      have hi : i < 64 := by
        have := (List.getElem?_eq_some_iff.mp hx).1
        rw [enumFrom_len, List.length_map] at this
        omega
      obtain ⟨ro2, st2, k1, k2⟩ := turn i c ro st hi hr
      exact ⟨_, ro2, st2, by simp [asgT, asgTs, show 1 < ro.length by omega, show 2 < ro.length by omega], .inl k1, k2⟩) hlen
  rw [exs_cons, ex_for, ei, R.o_ok, h1, O.then_nx, exs_ret (ex_ret_d (ev_bl true)), outP_ret]
theorem cutG_mem {α : Type} {xs : List α} {lo hi : Option Int} {x : α} (h : x ∈ cutG xs lo hi) : x ∈ xs := by
  unfold cutG at h
  exact List.mem_of_mem_drop (List.mem_of_mem_take h)
theorem cutG_len {α : Type} (xs : List α) (lo hi : Option Int) : (cutG xs lo hi).length ≤ xs.length := by
  unfold cutG
  rw [List.length_take, List.length_drop]
  omega
theorem ev_slcL {G : Gt} {ro : Ro} {st : Store} {a b : M} {ds : List D} {j : Int} (hb : isAbsent b = false) (ha : ev G a ro st = .ok (.d (.tup ds)) st) (hi : ev G b ro st = .ok (.d (.int j)) st) : ev G (.slc a .absent b) ro st = .ok (.d (.tup (cutG ds none (some j)))) st := by
  have p : part b (ev G b ro st) (fun h st3 => okD ((some (D.tup ds)).bind fun x => slD x none h) st3) st = .ok (.d (.tup (cutG ds none (some j)))) st := by
    unfold part
    split
    · cases hb
    · rw [hi, R.bind_ok, peek_d]; rfl
  simp only [ev, ha, R.bind_ok, part, peek_d]
  exact p
theorem ev_slcR {G : Gt} {ro : Ro} {st : Store} {a b : M} {ds : List D} {j : Int} (hb : isAbsent b = false) (ha : ev G a ro st = .ok (.d (.tup ds)) st) (hi : ev G b ro st = .ok (.d (.int j)) st) : ev G (.slc a b .absent) ro st = .ok (.d (.tup (cutG ds (some j) none))) st := by
  have p : part b (ev G b ro st) (fun l st2 => okD ((peek st2 (.d (D.tup ds))).bind fun x => slD x l none) st2) st = .ok (.d (.tup (cutG ds (some j) none))) st := by
    unfold part
    split
    · cases hb
    · rw [hi, R.bind_ok, peek_d]; rfl
  simp only [ev, ha, R.bind_ok, part]
  exact p
theorem bin_addT (a b : List D) (h : a.length + b.length ≤ 1000000) : binD .Add (.tup a) (.tup b) = some (.tup (a ++ b)) :=
  if_pos (Nat.le_trans h (by rw [sizeLine_eq]; decide))
theorem ex_par3_d {G : Gt} {ro : Ro} {st st1 st2 st3 : Store} {i j k : Nat} {a b c : M} {x y z : W} (h1 : ev G a ro st = .ok x st1) (h2 : ev G b ro st1 = .ok y st2) (h3 : ev G c ro st2 = .ok z st3) (hl : i < ro.length ∧ j < ro.length ∧ k < ro.length) :
    ex G (.par3 i j k a b c) ro st = .nx (((ro.set i (some x)).set j (some y)).set k (some z)) st3 := by simp only [ex, h1, h2, h3, R.o_ok, if_pos hl]
theorem ex_par_d {G : Gt} {ro : Ro} {st st1 st2 : Store} {i j : Nat} {a b : M} {x y : W} (h1 : ev G a ro st = .ok x st1) (h2 : ev G b ro st1 = .ok y st2) (hl : i < ro.length ∧ j < ro.length) :
    ex G (.par i j a b) ro st = .nx ((ro.set i (some x)).set j (some y)) st2 := by simp only [ex, h1, h2, R.o_ok, if_pos hl]
theorem nods_of {ds : List D} (h : ∀ d ∈ ds, D.nod d = true) : D.nods ds = true := by rw [nods_all, List.all_eq_true]; exact h
end Ev
set_option linter.all false
set_option maxRecDepth 100000
set_option maxHeartbeats 1000000
namespace Ev
open PySem
/-! ### the law's loop over the cells, with names kept -/
theorem for_cells {G : Gt} {body : Ss} {N : Int} {ns : List Int} {a b : Nat} {J : Ro → Store → Prop} {ro : Ro} {st : Store} (hl : ns.length ≤ 63) (h0 : ro[0]? = some (some (.d (.scr ns)))) (hj : J ro st) (hJ : ∀ ro st, J ro st → a < ro.length ∧ b < ro.length)
    (turn : ∀ (i : Nat) (c : Int) (ro : Ro) (st : Store), i < 64 → J ro st → ∃ ro2 st2, exs G body ((ro.set a (some (.d (.int i)))).set b (some (.d (.int c)))) st = .nx ro2 st2 ∧ J ro2 st2) :
    ∃ ro2 st2, ex G (.for_ (.cons (.nm a) (.cons (.nm b) .nil)) (.enm (cellsM N)) body) ro st = .nx ro2 st2 ∧ J ro2 st2 := by
  obtain ⟨cs, hcs, ec⟩ := cells_ok (G := G) (st := st) N hl h0
  have ei : evi G (.enm (cellsM N)) ro st = .ok (enumFrom 0 (cs.map .int)) st := by
    simp only [evi, ec, R.bind_ok, keepD_d]; rfl
  have at_ : ∀ (cs : List Int) (k i : Nat) (x : D), (enumFrom k (cs.map D.int))[i]? = some x → ∃ c, x = .tup [.int ((k + i : Nat) : Int), .int c] := by
    intro cs
    induction cs with
    | nil => intro k i x h; cases h
    | cons c cs ih =>
      intro k i x h
      cases i with
      | zero => cases h; exact ⟨c, rfl⟩
      | succ i =>
        obtain ⟨c', e⟩ := ih (k + 1) i x (by simpa [enumFrom] using h)
        exact ⟨c', by rw [e, show k + 1 + i = k + (i + 1) by omega]⟩
  obtain ⟨ro', st', h1, h2⟩ := forRun_all (b := exs G body) (t := .cons (.nm a) (.cons (.nm b) .nil)) (J := fun k ro st => J ro st) (enumFrom 0 (cs.map .int)) 0 ro st
    (fun i x hx ro st hr => by
      obtain ⟨c, rfl⟩ := at_ cs 0 i x hx
      rw [Nat.zero_add]
      have hi : i < 64 := by
        have := (List.getElem?_eq_some_iff.mp hx).1
        rw [enumFrom_len, List.length_map] at this
        omega
      obtain ⟨ro2, st2, k1, k2⟩ := turn i c ro st hi hr
      obtain ⟨la, lb⟩ := hJ _ _ hr
      exact ⟨_, ro2, st2, by simp [asgT, asgTs, la, lb], .inl k1, k2⟩) hj
  exact ⟨ro', st', by rw [ex_for, ei, R.o_ok, h1], h2⟩
theorem neD_self {x : D} (h : D.nod x = true) (k : D.dep x ≤ 60) : cmpD .NotEq x x = some false := by
  have := eqD_self x h k
  show (eqD x x).map (!·) = _
  rw [this]; rfl
theorem ev_neSelf {G : Gt} {ro : Ro} {st : Store} {a b : M} {x : D} (ha : ev G a ro st = .ok (.d x) st) (hb : ev G b ro st = .ok (.d x) st) (h : D.nod x = true) (k : D.dep x ≤ 60) :
    ev G (.cmp .NotEq a b) ro st = .ok (.d (.bl false)) st := ev_cmp_d ha hb (neD_self h k)
end Ev
set_option Elab.async false
set_option linter.all false
set_option maxRecDepth 100000
set_option maxHeartbeats 0

namespace HX
open PySem PySem.Spec PyProof.Rows L2
def top (i : Nat) : Stmt := PySem.Challenge.pw_heirlists_k07_refusals_by_hand.main.body.getD i (.Pass ⟨0, 0, 0, 0⟩)
abbrev s_BadRow___init__ : Stmt := inClass (top 2) 0
def d_BadRow___init__ : He.DefD := ⟨("BadRow", some "__init__"), "__init__", "BadRow.__init__", defArgs s_BadRow___init__, defBody s_BadRow___init__, defScope s_BadRow___init__, [], []⟩
abbrev s_BadCalls___init__ : Stmt := inClass (top 3) 0
def d_BadCalls___init__ : He.DefD := ⟨("BadCalls", some "__init__"), "__init__", "BadCalls.__init__", defArgs s_BadCalls___init__, defBody s_BadCalls___init__, defScope s_BadCalls___init__, [], []⟩
abbrev s_BadPrices___init__ : Stmt := inClass (top 4) 0
def d_BadPrices___init__ : He.DefD := ⟨("BadPrices", some "__init__"), "__init__", "BadPrices.__init__", defArgs s_BadPrices___init__, defBody s_BadPrices___init__, defScope s_BadPrices___init__, [], []⟩
abbrev s_BadList___init__ : Stmt := inClass (top 5) 0
def d_BadList___init__ : He.DefD := ⟨("BadList", some "__init__"), "__init__", "BadList.__init__", defArgs s_BadList___init__, defBody s_BadList___init__, defScope s_BadList___init__, [], []⟩
abbrev s_BadWays___init__ : Stmt := inClass (top 6) 0
def d_BadWays___init__ : He.DefD := ⟨("BadWays", some "__init__"), "__init__", "BadWays.__init__", defArgs s_BadWays___init__, defBody s_BadWays___init__, defScope s_BadWays___init__, [], []⟩
abbrev s_BadSet___init__ : Stmt := inClass (top 7) 0
def d_BadSet___init__ : He.DefD := ⟨("BadSet", some "__init__"), "__init__", "BadSet.__init__", defArgs s_BadSet___init__, defBody s_BadSet___init__, defScope s_BadSet___init__, [], []⟩
abbrev s_BadPaper___init__ : Stmt := inClass (top 8) 0
def d_BadPaper___init__ : He.DefD := ⟨("BadPaper", some "__init__"), "__init__", "BadPaper.__init__", defArgs s_BadPaper___init__, defBody s_BadPaper___init__, defScope s_BadPaper___init__, [], []⟩
abbrev s_is_whole : Stmt := top 18
def d_is_whole : He.DefD := ⟨("is_whole", none), "is_whole", "is_whole", defArgs s_is_whole, defBody s_is_whole, defScope s_is_whole, [], []⟩
abbrev s_is_among : Stmt := top 19
def d_is_among : He.DefD := ⟨("is_among", none), "is_among", "is_among", defArgs s_is_among, defBody s_is_among, defScope s_is_among, [], []⟩
abbrev s_is_name : Stmt := top 20
def d_is_name : He.DefD := ⟨("is_name", none), "is_name", "is_name", defArgs s_is_name, defBody s_is_name, defScope s_is_name, [], []⟩
abbrev s_number_of : Stmt := top 21
def d_number_of : He.DefD := ⟨("number_of", none), "number_of", "number_of", defArgs s_number_of, defBody s_number_of, defScope s_number_of, [], []⟩
abbrev s_words_of : Stmt := top 22
def d_words_of : He.DefD := ⟨("words_of", none), "words_of", "words_of", defArgs s_words_of, defBody s_words_of, defScope s_words_of, [], []⟩
abbrev s_is_group : Stmt := top 27
def d_is_group : He.DefD := ⟨("is_group", none), "is_group", "is_group", defArgs s_is_group, defBody s_is_group, defScope s_is_group, [], []⟩
abbrev s_bad_group : Stmt := top 28
def d_bad_group : He.DefD := ⟨("bad_group", none), "bad_group", "bad_group", defArgs s_bad_group, defBody s_bad_group, defScope s_bad_group, [], []⟩
abbrev s_are_calls : Stmt := top 29
def d_are_calls : He.DefD := ⟨("are_calls", none), "are_calls", "are_calls", defArgs s_are_calls, defBody s_are_calls, defScope s_are_calls, [], []⟩
abbrev s_need_calls : Stmt := top 30
def d_need_calls : He.DefD := ⟨("need_calls", none), "need_calls", "need_calls", defArgs s_need_calls, defBody s_need_calls, defScope s_need_calls, [], []⟩
abbrev s_group_in : Stmt := top 31
def d_group_in : He.DefD := ⟨("group_in", none), "group_in", "group_in", defArgs s_group_in, defBody s_group_in, defScope s_group_in, [], []⟩
abbrev s_group_of : Stmt := top 32
def d_group_of : He.DefD := ⟨("group_of", none), "group_of", "group_of", defArgs s_group_of, defBody s_group_of, defScope s_group_of, [], []⟩
abbrev s_are_prices : Stmt := top 33
def d_are_prices : He.DefD := ⟨("are_prices", none), "are_prices", "are_prices", defArgs s_are_prices, defBody s_are_prices, defScope s_are_prices, [], []⟩
abbrev s_need_prices : Stmt := top 34
def d_need_prices : He.DefD := ⟨("need_prices", none), "need_prices", "need_prices", defArgs s_need_prices, defBody s_need_prices, defScope s_need_prices, [], []⟩
abbrev s_price_in : Stmt := top 35
def d_price_in : He.DefD := ⟨("price_in", none), "price_in", "price_in", defArgs s_price_in, defBody s_price_in, defScope s_price_in, [], []⟩
abbrev s_price_of : Stmt := top 36
def d_price_of : He.DefD := ⟨("price_of", none), "price_of", "price_of", defArgs s_price_of, defBody s_price_of, defScope s_price_of, [], []⟩
abbrev s_is_day : Stmt := top 44
def d_is_day : He.DefD := ⟨("is_day", none), "is_day", "is_day", defArgs s_is_day, defBody s_is_day, defScope s_is_day, [], []⟩
abbrev s_is_line : Stmt := top 45
def d_is_line : He.DefD := ⟨("is_line", none), "is_line", "is_line", defArgs s_is_line, defBody s_is_line, defScope s_is_line, [], []⟩
abbrev s_bad_line : Stmt := top 46
def d_bad_line : He.DefD := ⟨("bad_line", none), "bad_line", "bad_line", defArgs s_bad_line, defBody s_bad_line, defScope s_bad_line, [], []⟩
abbrev s_bad_room : Stmt := top 47
def d_bad_room : He.DefD := ⟨("bad_room", none), "bad_room", "bad_room", defArgs s_bad_room, defBody s_bad_room, defScope s_bad_room, [], []⟩
abbrev s_are_few : Stmt := top 48
def d_are_few : He.DefD := ⟨("are_few", none), "are_few", "are_few", defArgs s_are_few, defBody s_are_few, defScope s_are_few, [], []⟩
abbrev s_first_wrong : Stmt := top 49
def d_first_wrong : He.DefD := ⟨("first_wrong", none), "first_wrong", "first_wrong", defArgs s_first_wrong, defBody s_first_wrong, defScope s_first_wrong, [], []⟩
abbrev s_is_list : Stmt := top 50
def d_is_list : He.DefD := ⟨("is_list", none), "is_list", "is_list", defArgs s_is_list, defBody s_is_list, defScope s_is_list, [], []⟩
abbrev s_need_list : Stmt := top 51
def d_need_list : He.DefD := ⟨("need_list", none), "need_list", "need_list", defArgs s_need_list, defBody s_need_list, defScope s_need_list, [], []⟩
abbrev s_bad_among : Stmt := top 52
def d_bad_among : He.DefD := ⟨("bad_among", none), "bad_among", "bad_among", defArgs s_bad_among, defBody s_bad_among, defScope s_bad_among, [], []⟩
abbrev s_need_lists : Stmt := top 53
def d_need_lists : He.DefD := ⟨("need_lists", none), "need_lists", "need_lists", defArgs s_need_lists, defBody s_need_lists, defScope s_need_lists, [], []⟩
abbrev s_list_text : Stmt := top 55
def d_list_text : He.DefD := ⟨("list_text", none), "list_text", "list_text", defArgs s_list_text, defBody s_list_text, defScope s_list_text, [], []⟩
abbrev s_ListReader___init__ : Stmt := inClass (top 56) 0
def d_ListReader___init__ : He.DefD := ⟨("ListReader", some "__init__"), "__init__", "ListReader.__init__", defArgs s_ListReader___init__, defBody s_ListReader___init__, defScope s_ListReader___init__, [], []⟩
abbrev s_ListReader_words_at : Stmt := inClass (top 56) 1
def d_ListReader_words_at : He.DefD := ⟨("ListReader", some "words_at"), "words_at", "ListReader.words_at", defArgs s_ListReader_words_at, defBody s_ListReader_words_at, defScope s_ListReader_words_at, [], []⟩
abbrev s_ListReader_read_day : Stmt := inClass (top 56) 2
def d_ListReader_read_day : He.DefD := ⟨("ListReader", some "read_day"), "read_day", "ListReader.read_day", defArgs s_ListReader_read_day, defBody s_ListReader_read_day, defScope s_ListReader_read_day, [], []⟩
abbrev s_ListReader_may_stand : Stmt := inClass (top 56) 3
def d_ListReader_may_stand : He.DefD := ⟨("ListReader", some "may_stand"), "may_stand", "ListReader.may_stand", defArgs s_ListReader_may_stand, defBody s_ListReader_may_stand, defScope s_ListReader_may_stand, [], []⟩
abbrev s_ListReader_read_line : Stmt := inClass (top 56) 4
def d_ListReader_read_line : He.DefD := ⟨("ListReader", some "read_line"), "read_line", "ListReader.read_line", defArgs s_ListReader_read_line, defBody s_ListReader_read_line, defScope s_ListReader_read_line, [], []⟩
abbrev s_read_list : Stmt := top 57
def d_read_list : He.DefD := ⟨("read_list", none), "read_list", "read_list", defArgs s_read_list, defBody s_read_list, defScope s_read_list, [], []⟩
abbrev s__law_mixed : Stmt := top 59
def d__law_mixed : He.DefD := ⟨("_law_mixed", none), "_law_mixed", "_law_mixed", defArgs s__law_mixed, defBody s__law_mixed, defScope s__law_mixed, [], []⟩
abbrev s__law_kinds : Stmt := top 60
def d__law_kinds : He.DefD := ⟨("_law_kinds", none), "_law_kinds", "_law_kinds", defArgs s__law_kinds, defBody s__law_kinds, defScope s__law_kinds, [], []⟩
abbrev s__law_draw : Stmt := top 61
def d__law_draw : He.DefD := ⟨("_law_draw", none), "_law_draw", "_law_draw", defArgs s__law_draw, defBody s__law_draw, defScope s__law_draw, [], []⟩
abbrev s__law_digit : Stmt := top 62
def d__law_digit : He.DefD := ⟨("_law_digit", none), "_law_digit", "_law_digit", defArgs s__law_digit, defBody s__law_digit, defScope s__law_digit, [], []⟩
abbrev s__law_by_hand : Stmt := top 63
def d__law_by_hand : He.DefD := ⟨("_law_by_hand", none), "_law_by_hand", "_law_by_hand", defArgs s__law_by_hand, defBody s__law_by_hand, defScope s__law_by_hand, [], []⟩
abbrev s__law_told : Stmt := top 64
def d__law_told : He.DefD := ⟨("_law_told", none), "_law_told", "_law_told", defArgs s__law_told, defBody s__law_told, defScope s__law_told, [], []⟩
abbrev s_law : Stmt := top 65
def d_law : He.DefD := ⟨("law", none), "law", "law", defArgs s_law, defBody s_law, defScope s_law, [], []⟩
def fn_0 : List He.DefD := [d_BadRow___init__, d_BadCalls___init__, d_BadPrices___init__, d_BadList___init__, d_BadWays___init__, d_BadSet___init__, d_BadPaper___init__, d_is_whole, d_is_among, d_is_name, d_number_of, d_words_of, d_is_group, d_bad_group, d_are_calls, d_need_calls, d_group_in, d_group_of, d_are_prices, d_need_prices, d_price_in, d_price_of, d_is_day, d_is_line, d_bad_line, d_bad_room, d_are_few, d_first_wrong, d_is_list, d_need_list]
def fn_1 : List He.DefD := [d_bad_among, d_need_lists, d_list_text, d_ListReader___init__, d_ListReader_words_at, d_ListReader_read_day, d_ListReader_may_stand, d_ListReader_read_line, d_read_list, d__law_mixed, d__law_kinds, d__law_draw, d__law_digit, d__law_by_hand, d__law_told, d_law]
def fn : List He.DefD := fn_0 ++ fn_1
def fa_0 : List He.Fa := [.glo "is_whole", .glo "is_among", .glo "is_name", .glo "number_of", .glo "words_of", .glo "is_group", .glo "bad_group", .glo "are_calls", .glo "need_calls", .glo "group_in", .glo "group_of", .glo "are_prices", .glo "need_prices", .glo "price_in", .glo "price_of", .glo "is_day", .glo "is_line", .glo "bad_line", .glo "bad_room", .glo "are_few", .glo "first_wrong", .glo "is_list", .glo "need_list", .glo "bad_among", .glo "need_lists", .glo "list_text", .glo "read_list", .glo "_law_mixed", .glo "_law_kinds", .glo "_law_draw"]
def fa_1 : List He.Fa := [.glo "_law_digit", .glo "_law_by_hand", .glo "_law_told", .glo "law", .str "LETTERS" "abcdefghijklmnopqrstuvwxyz", .str "FIGURES" "0123456789", .int "MOST_LETTERS" 8, .int "MOST_FIGURES" 5, .int "MOST_GROUPS" 6, .int "MOST_NAMES" 4, .int "MOST_DAY" 99999, .int "MOST_LINES" 10, .int "MOST_LOST" 4, .int "MOST_LISTS" 6, .int "MOST_LIKE" 9, .free "ValueError", .free "all", .free "any", .free "bool", .free "enumerate", .free "int", .free "isinstance", .free "len", .free "list", .free "range", .free "str", .free "sum", .free "tuple", .free "zip", .glo "HAPPENINGS"]
def fa_2 : List He.Fa := [.glo "STATES", .glo "ListError", .keep "ListError", .glo "BadRow", .keep "BadRow", .glo "BadCalls", .keep "BadCalls", .glo "BadPrices", .keep "BadPrices", .glo "BadList", .keep "BadList", .glo "BadWays", .keep "BadWays", .glo "BadSet", .keep "BadSet", .glo "BadPaper", .keep "BadPaper", .glo "Twice", .keep "Twice", .glo "OutOfPlace", .keep "OutOfPlace", .glo "TooGreat", .keep "TooGreat", .glo "Nothing", .keep "Nothing", .glo "ListReader", .cls "ListReader", .mkr "ListReader", .meth "ListReader" "words_at", .meth "ListReader" "read_day"]
def fa_3 : List He.Fa := [.meth "ListReader" "may_stand", .meth "ListReader" "read_line"]
def fa : List He.Fa := fa_0 ++ fa_1 ++ fa_2 ++ fa_3
def faB : List He.Fa := fa ++ Ev.blts.map He.Fa.free
def loose_0 : List Str := ["ListError", "BadRow", "BadCalls", "BadPrices", "BadList", "BadWays", "BadSet", "BadPaper", "Twice", "OutOfPlace", "TooGreat", "Nothing", "LETTERS", "FIGURES", "MOST_LETTERS", "MOST_FIGURES", "is_whole", "is_among", "is_name", "number_of", "words_of", "MOST_GROUPS", "MOST_NAMES", "HAPPENINGS", "is_group", "bad_group", "are_calls", "need_calls", "group_in", "group_of"]
def loose_1 : List Str := ["are_prices", "need_prices", "price_in", "price_of", "MOST_DAY", "MOST_LINES", "MOST_LOST", "MOST_LISTS", "MOST_LIKE", "STATES", "is_day", "is_line", "bad_line", "bad_room", "are_few", "first_wrong", "is_list", "need_list", "bad_among", "need_lists", "list_text", "ListReader", "read_list", "_law_mixed", "_law_kinds", "_law_draw", "_law_digit", "_law_by_hand", "_law_told"]
def loose : List Str := loose_0 ++ loose_1
def xs_ListError : List (Str × Str × Bool) := [("ListError", "ListError", true), ("ListError", "BadRow", false), ("ListError", "BadCalls", false), ("ListError", "BadPrices", false), ("ListError", "BadList", false), ("ListError", "BadWays", false), ("ListError", "BadSet", false), ("ListError", "BadPaper", false), ("ListError", "Twice", false), ("ListError", "OutOfPlace", false), ("ListError", "TooGreat", false), ("ListError", "Nothing", false)]
def xs_BadRow : List (Str × Str × Bool) := [("BadRow", "ListError", true), ("BadRow", "BadRow", true), ("BadRow", "BadCalls", false), ("BadRow", "BadPrices", false), ("BadRow", "BadList", false), ("BadRow", "BadWays", false), ("BadRow", "BadSet", false), ("BadRow", "BadPaper", false), ("BadRow", "Twice", false), ("BadRow", "OutOfPlace", false), ("BadRow", "TooGreat", false), ("BadRow", "Nothing", false)]
def xs_BadCalls : List (Str × Str × Bool) := [("BadCalls", "ListError", true), ("BadCalls", "BadRow", false), ("BadCalls", "BadCalls", true), ("BadCalls", "BadPrices", false), ("BadCalls", "BadList", false), ("BadCalls", "BadWays", false), ("BadCalls", "BadSet", false), ("BadCalls", "BadPaper", false), ("BadCalls", "Twice", false), ("BadCalls", "OutOfPlace", false), ("BadCalls", "TooGreat", false), ("BadCalls", "Nothing", false)]
def xs_BadPrices : List (Str × Str × Bool) := [("BadPrices", "ListError", true), ("BadPrices", "BadRow", false), ("BadPrices", "BadCalls", false), ("BadPrices", "BadPrices", true), ("BadPrices", "BadList", false), ("BadPrices", "BadWays", false), ("BadPrices", "BadSet", false), ("BadPrices", "BadPaper", false), ("BadPrices", "Twice", false), ("BadPrices", "OutOfPlace", false), ("BadPrices", "TooGreat", false), ("BadPrices", "Nothing", false)]
def xs_BadList : List (Str × Str × Bool) := [("BadList", "ListError", true), ("BadList", "BadRow", false), ("BadList", "BadCalls", false), ("BadList", "BadPrices", false), ("BadList", "BadList", true), ("BadList", "BadWays", false), ("BadList", "BadSet", false), ("BadList", "BadPaper", false), ("BadList", "Twice", false), ("BadList", "OutOfPlace", false), ("BadList", "TooGreat", false), ("BadList", "Nothing", false)]
def xs_BadWays : List (Str × Str × Bool) := [("BadWays", "ListError", true), ("BadWays", "BadRow", false), ("BadWays", "BadCalls", false), ("BadWays", "BadPrices", false), ("BadWays", "BadList", false), ("BadWays", "BadWays", true), ("BadWays", "BadSet", false), ("BadWays", "BadPaper", false), ("BadWays", "Twice", false), ("BadWays", "OutOfPlace", false), ("BadWays", "TooGreat", false), ("BadWays", "Nothing", false)]
def xs_BadSet : List (Str × Str × Bool) := [("BadSet", "ListError", true), ("BadSet", "BadRow", false), ("BadSet", "BadCalls", false), ("BadSet", "BadPrices", false), ("BadSet", "BadList", false), ("BadSet", "BadWays", false), ("BadSet", "BadSet", true), ("BadSet", "BadPaper", false), ("BadSet", "Twice", false), ("BadSet", "OutOfPlace", false), ("BadSet", "TooGreat", false), ("BadSet", "Nothing", false)]
def xs_BadPaper : List (Str × Str × Bool) := [("BadPaper", "ListError", true), ("BadPaper", "BadRow", false), ("BadPaper", "BadCalls", false), ("BadPaper", "BadPrices", false), ("BadPaper", "BadList", false), ("BadPaper", "BadWays", false), ("BadPaper", "BadSet", false), ("BadPaper", "BadPaper", true), ("BadPaper", "Twice", false), ("BadPaper", "OutOfPlace", false), ("BadPaper", "TooGreat", false), ("BadPaper", "Nothing", false)]
def xs_Twice : List (Str × Str × Bool) := [("Twice", "ListError", true), ("Twice", "BadRow", false), ("Twice", "BadCalls", false), ("Twice", "BadPrices", false), ("Twice", "BadList", false), ("Twice", "BadWays", false), ("Twice", "BadSet", false), ("Twice", "BadPaper", false), ("Twice", "Twice", true), ("Twice", "OutOfPlace", false), ("Twice", "TooGreat", false), ("Twice", "Nothing", false)]
def xs_OutOfPlace : List (Str × Str × Bool) := [("OutOfPlace", "ListError", true), ("OutOfPlace", "BadRow", false), ("OutOfPlace", "BadCalls", false), ("OutOfPlace", "BadPrices", false), ("OutOfPlace", "BadList", false), ("OutOfPlace", "BadWays", false), ("OutOfPlace", "BadSet", false), ("OutOfPlace", "BadPaper", false), ("OutOfPlace", "Twice", false), ("OutOfPlace", "OutOfPlace", true), ("OutOfPlace", "TooGreat", false), ("OutOfPlace", "Nothing", false)]
def xs_TooGreat : List (Str × Str × Bool) := [("TooGreat", "ListError", true), ("TooGreat", "BadRow", false), ("TooGreat", "BadCalls", false), ("TooGreat", "BadPrices", false), ("TooGreat", "BadList", false), ("TooGreat", "BadWays", false), ("TooGreat", "BadSet", false), ("TooGreat", "BadPaper", false), ("TooGreat", "Twice", false), ("TooGreat", "OutOfPlace", false), ("TooGreat", "TooGreat", true), ("TooGreat", "Nothing", false)]
def xs_Nothing : List (Str × Str × Bool) := [("Nothing", "ListError", true), ("Nothing", "BadRow", false), ("Nothing", "BadCalls", false), ("Nothing", "BadPrices", false), ("Nothing", "BadList", false), ("Nothing", "BadWays", false), ("Nothing", "BadSet", false), ("Nothing", "BadPaper", false), ("Nothing", "Twice", false), ("Nothing", "OutOfPlace", false), ("Nothing", "TooGreat", false), ("Nothing", "Nothing", true)]
def xsAll : List (Str × Str × Bool) := xs_ListError ++ xs_BadRow ++ xs_BadCalls ++ xs_BadPrices ++ xs_BadList ++ xs_BadWays ++ xs_BadSet ++ xs_BadPaper ++ xs_Twice ++ xs_OutOfPlace ++ xs_TooGreat ++ xs_Nothing
def xt : Ev.XT := ⟨["ListError", "BadRow", "BadCalls", "BadPrices", "BadList", "BadWays", "BadSet", "BadPaper", "Twice", "OutOfPlace", "TooGreat", "Nothing", "HAPPENINGS", "STATES"], ["ListError", "Twice", "OutOfPlace", "TooGreat", "Nothing"], [("BadRow", "row", ["word"]), ("BadCalls", "number", []), ("BadPrices", "number", []), ("BadList", "part", ["number"]), ("BadWays", "number", []), ("BadSet", "number", []), ("BadPaper", "place", [])], xsAll, [("ListError", true), ("BadRow", true), ("BadCalls", true), ("BadPrices", true), ("BadList", true), ("BadWays", true), ("BadSet", true), ("BadPaper", true), ("Twice", true), ("OutOfPlace", true), ("TooGreat", true), ("Nothing", true)], xsAll, [("BadRow", "row"), ("BadRow", "word"), ("BadCalls", "number"), ("BadPrices", "number"), ("BadList", "part"), ("BadList", "number"), ("BadWays", "number"), ("BadSet", "number"), ("BadPaper", "place")], [("HAPPENINGS", ["moved", "lent", "back", "called", "broken", "mended", "gone", "new"]), ("STATES", ["broken", "sound"])], ["ListReader"], [("ListReader", "words_at"), ("ListReader", "read_day"), ("ListReader", "may_stand"), ("ListReader", "read_line")], [("ListReader", "rows"), ("ListReader", "day"), ("ListReader", "lost"), ("ListReader", "lines")]⟩
def exF (K : PySem.W.Frag) : Bool := xt.ok K && (Ev.exbB K (He.ga K "ListError") && (He.tupB K "HAPPENINGS" [.str "moved", .str "lent", .str "back", .str "called", .str "broken", .str "mended", .str "gone", .str "new"] && He.tupB K "STATES" [.str "broken", .str "sound"]))
abbrev R : PySem.W.OpenRow := PySem.W.OpenLaw.row PySem.Challenge.rw_heirlists_k07_refusals_by_hand
abbrev hk : PySem.W.Hook := Ev.hookY 4 faB fn exF
def ob (s : PySem.W.SharedT) : Ev.AlY := Ev.obsY 4 faB fn exF (HandSHeadRun.getT s)
theorem ob_eq (s : PySem.W.SharedT) : ob s = hk.obs s.abs := Ev.obsY_eq (HandSHeadRun.getT_eq s)
theorem run (w : World) : HandSHeadRun.RunEq R (PySem.W.view R.prog [65]) hk ob 20000 loose w := by
  intro os
  kernel_rfl
def con0 : Str → Option Ev.D := fun x => if x = "LETTERS" then some (.str "abcdefghijklmnopqrstuvwxyz") else if x = "FIGURES" then some (.str "0123456789") else if x = "MOST_LETTERS" then some (.int 8) else if x = "MOST_FIGURES" then some (.int 5) else if x = "MOST_GROUPS" then some (.int 6) else if x = "MOST_NAMES" then some (.int 4) else if x = "MOST_DAY" then some (.int 99999) else if x = "MOST_LINES" then some (.int 10) else if x = "MOST_LOST" then some (.int 4) else if x = "MOST_LISTS" then some (.int 6) else if x = "MOST_LIKE" then some (.int 9) else if x = "HAPPENINGS" then some (.tup [.str "moved", .str "lent", .str "back", .str "called", .str "broken", .str "mended", .str "gone", .str "new"]) else if x = "STATES" then some (.tup [.str "broken", .str "sound"]) else none
def G0 : Ev.Gt := xt.gt con0
def n__law_draw : List Str := ["_law_cell", "_law_k"]
def p__law_draw : List Str := ["_law_cell", "_law_k"]
def b__law_draw : Ev.Ss := (.cons (.ret (.dic ["left", "cell", "turns"] (.cons (.ite (.cmp .GtE (.var 0) (.bin .Pow (.int 10) (.int 18))) (.var 0) (.int 0)) (.cons (.var 0) (.cons (.bin .Mult (.int 1000) (.var 1)) .nil))))) .nil)
theorem c__law_draw : Ev.chkSs n__law_draw (defScope s__law_draw) b__law_draw (defBody s__law_draw) = true := by decide +kernel
theorem sc__law_draw : FnScope n__law_draw p__law_draw (defScope s__law_draw) := ⟨rfl, rfl, rfl, by decide +kernel, rfl, by decide +kernel, by decide +kernel⟩
def f__law_draw : List Ev.W → Ev.Store → Ev.R Ev.W := Ev.runS G0 2 2 b__law_draw
def G1 : Ev.Gt := G0.addS "_law_draw" f__law_draw
def n__law_mixed : List Str := ["_law_cell", "_law_k", "_law_number"]
def p__law_mixed : List Str := ["_law_cell", "_law_k"]
def b__law_mixed : Ev.Ss := (.cons (.set 2 (.bin .Add (.bin .Add (.bin .Mod (.var 0) (.sub (.lst (.cons (.int 1000000007) (.cons (.int 998244353) (.cons (.int 2147483629) (.cons (.int 1000000009) .nil))))) (.bin .Mod (.var 1) (.int 4)))) (.bin .Mult (.int 7919) (.var 1))) (.int 13))) (.cons (.ret (.bin .Mod (.bin .Mult (.bin .Mod (.bin .Mult (.var 2) (.var 2)) (.int 2147483647)) (.int 48271)) (.int 2147483647))) .nil))
theorem c__law_mixed : Ev.chkSs n__law_mixed (defScope s__law_mixed) b__law_mixed (defBody s__law_mixed) = true := by decide +kernel
theorem sc__law_mixed : FnScope n__law_mixed p__law_mixed (defScope s__law_mixed) := ⟨rfl, rfl, rfl, by decide +kernel, rfl, by decide +kernel, by decide +kernel⟩
def f__law_mixed : List Ev.D → Option (Except Ev.Xv Ev.D) := Ev.runP G1 3 2 b__law_mixed
def G2 : Ev.Gt := G1.addP "_law_mixed" f__law_mixed
def n__law_digit : List Str := ["_law_state", "_law_many", "_law_j", "_law_found"]
def p__law_digit : List Str := ["_law_state", "_law_many"]
def l__law_digit_0 : Ev.Ss := (.cons (.dput (.var 0) (.str "turns") (.bin .Add (.dget (.var 0) (.str "turns")) (.int 1))) (.cons (.dput (.var 0) (.str "left") (.bin .Add (.bin .Mult (.dget (.var 0) (.str "left")) (.int 2147483647)) (.callP "_law_mixed" (.cons (.dget (.var 0) (.str "cell")) (.cons (.dget (.var 0) (.str "turns")) .nil))))) .nil))
def b__law_digit : Ev.Ss := (.cons (.iff (.cmp .Eq (.dget (.var 0) (.str "left")) (.int 0)) (.cons (.for_ (.nm 2) (.rng1 (.int 4)) l__law_digit_0) .nil) .nil) (.cons (.set 3 (.bin .Mod (.dget (.var 0) (.str "left")) (.var 1))) (.cons (.dput (.var 0) (.str "left") (.bin .FloorDiv (.dget (.var 0) (.str "left")) (.var 1))) (.cons (.ret (.var 3)) .nil))))
theorem c__law_digit : Ev.chkSs n__law_digit (defScope s__law_digit) b__law_digit (defBody s__law_digit) = true := by decide +kernel
theorem sc__law_digit : FnScope n__law_digit p__law_digit (defScope s__law_digit) := ⟨rfl, rfl, rfl, by decide +kernel, rfl, by decide +kernel, by decide +kernel⟩
def f__law_digit : List Ev.W → Ev.Store → Ev.R Ev.W := Ev.runS G2 4 2 b__law_digit
def G3 : Ev.Gt := G2.addS "_law_digit" f__law_digit
def n__law_kinds : List Str := ["_law_error", "_law_kinds_here", "_law_name", "_law_fits"]
def p__law_kinds : List Str := ["_law_error"]
def b__law_kinds : Ev.Ss := (.cons (.set 1 (.lstc (.cons (.tup (.cons (.str "row") (.cons (.isx (.var 0) "BadRow") .nil))) (.cons (.tup (.cons (.str "calls") (.cons (.isx (.var 0) "BadCalls") .nil))) .nil)))) (.cons (.set 1 (.addc (.var 1) (.lst (.cons (.tup (.cons (.str "prices") (.cons (.isx (.var 0) "BadPrices") .nil))) (.cons (.tup (.cons (.str "list") (.cons (.isx (.var 0) "BadList") .nil))) .nil))))) (.cons (.set 1 (.addc (.var 1) (.lst (.cons (.tup (.cons (.str "ways") (.cons (.isx (.var 0) "BadWays") .nil))) (.cons (.tup (.cons (.str "set") (.cons (.isx (.var 0) "BadSet") .nil))) .nil))))) (.cons (.set 1 (.addc (.var 1) (.lst (.cons (.tup (.cons (.str "paper") (.cons (.isx (.var 0) "BadPaper") .nil))) (.cons (.tup (.cons (.str "twice") (.cons (.isx (.var 0) "Twice") .nil))) .nil))))) (.cons (.set 1 (.addc (.var 1) (.lst (.cons (.tup (.cons (.str "place") (.cons (.isx (.var 0) "OutOfPlace") .nil))) (.cons (.tup (.cons (.str "great") (.cons (.isx (.var 0) "TooGreat") .nil))) .nil))))) (.cons (.set 1 (.addc (.var 1) (.lst (.cons (.tup (.cons (.str "nothing") (.cons (.isx (.var 0) "Nothing") .nil))) .nil)))) (.cons (.app (.var 1) (.tup (.cons (.str "other") (.cons (.or2 (.not (.isx (.var 0) "ValueError")) (.not (.isx (.var 0) "ListError"))) .nil)))) (.cons (.ret (.lc [2, 3] (.cons (.nm 2) (.cons (.nm 3) .nil)) (.it (.var 1)) (.var 3) (.var 2))) .nil))))))))
theorem c__law_kinds : Ev.chkSs n__law_kinds (defScope s__law_kinds) b__law_kinds (defBody s__law_kinds) = true := by decide +kernel
theorem sc__law_kinds : FnScope n__law_kinds p__law_kinds (defScope s__law_kinds) := ⟨rfl, rfl, rfl, by decide +kernel, rfl, by decide +kernel, by decide +kernel⟩
def f__law_kinds : List Ev.D → Option (Except Ev.Xv Ev.D) := Ev.runP G3 4 1 b__law_kinds
def G4 : Ev.Gt := G3.addP "_law_kinds" f__law_kinds
def n__law_by_hand : List Str := ["_law_number", "_law_made", "_law_told_here", "_law_more", "_law_names", "_law_error", "_law_name"]
def p__law_by_hand : List Str := ["_law_number"]
def b__law_by_hand : Ev.Ss := (.cons (.set 1 (.lst (.cons (.mk "BadRow" (.cons (.var 0) (.cons (.int 3) .nil))) (.cons (.mk "BadCalls" (.cons (.var 0) .nil)) (.cons (.mk "BadPrices" (.cons (.var 0) .nil)) (.cons (.mk "BadList" (.cons (.str "lines") (.cons (.var 0) .nil))) (.cons (.mk "BadWays" (.cons (.var 0) .nil)) .nil))))))) (.cons (.set 2 (.lst (.cons (.fld (.sub (.var 1) (.int 0)) "row") (.cons (.fld (.sub (.var 1) (.int 0)) "word") (.cons (.fld (.sub (.var 1) (.int 1)) "number") (.cons (.fld (.sub (.var 1) (.int 2)) "number") (.cons (.fld (.sub (.var 1) (.int 3)) "part") (.cons (.fld (.sub (.var 1) (.int 3)) "number") (.cons (.fld (.sub (.var 1) (.int 4)) "number") .nil))))))))) (.cons (.iff (.cmp .NotEq (.var 2) (.lst (.cons (.var 0) (.cons (.int 3) (.cons (.var 0) (.cons (.var 0) (.cons (.str "lines") (.cons (.var 0) (.cons (.var 0) .nil))))))))) (.cons (.ret (.bl false)) .nil) .nil) (.cons (.set 3 (.lst (.cons (.mk "BadSet" (.cons (.var 0) .nil)) (.cons (.mk "BadPaper" (.cons (.tup (.cons (.int 1) (.cons (.var 0) .nil))) .nil)) (.cons (.mk "BadCalls" (.cons .non .nil)) (.cons (.mk "BadPrices" (.cons .non .nil)) (.cons (.mk "BadList" (.cons .non (.cons .non .nil))) (.cons (.mk "BadWays" (.cons .non .nil)) .nil)))))))) (.cons (.set 2 (.lst (.cons (.fld (.sub (.var 3) (.int 0)) "number") (.cons (.fld (.sub (.var 3) (.int 1)) "place") (.cons (.fld (.sub (.var 3) (.int 2)) "number") (.cons (.fld (.sub (.var 3) (.int 3)) "number") (.cons (.fld (.sub (.var 3) (.int 4)) "part") (.cons (.fld (.sub (.var 3) (.int 4)) "number") (.cons (.fld (.sub (.var 3) (.int 5)) "number") .nil))))))))) (.cons (.iff (.or2 (.cmp .NotEq (.var 2) (.lst (.cons (.var 0) (.cons (.tup (.cons (.int 1) (.cons (.var 0) .nil))) (.cons .non (.cons .non (.cons .non (.cons .non (.cons .non .nil))))))))) (.cmp .IsNot (.fld (.mk "BadSet" (.cons .non .nil)) "number") .non)) (.cons (.ret (.bl false)) .nil) .nil) (.cons (.set 1 (.bin .Add (.bin .Add (.var 1) (.var 3)) (.lst (.cons (.mk "BadPaper" (.cons .non .nil)) (.cons (.mk "Twice" (.cons (.str "x") .nil)) (.cons (.mk "OutOfPlace" (.cons (.str "x") .nil)) (.cons (.mk "TooGreat" (.cons (.str "x") .nil)) (.cons (.mk "Nothing" (.cons (.str "x") .nil)) .nil)))))))) (.cons (.set 4 (.lst (.cons (.str "row") (.cons (.str "calls") (.cons (.str "prices") (.cons (.str "list") (.cons (.str "ways") (.cons (.str "set") (.cons (.str "paper") (.cons (.str "calls") (.cons (.str "prices") (.cons (.str "list") (.cons (.str "ways") (.cons (.str "paper") .nil)))))))))))))) (.cons (.set 4 (.bin .Add (.var 4) (.lst (.cons (.str "twice") (.cons (.str "place") (.cons (.str "great") (.cons (.str "nothing") .nil))))))) (.cons (.ret (.and2 (.cmp .Eq (.lc [5] (.nm 5) (.it (.var 1)) (.bl true) (.callP "_law_kinds" (.cons (.var 5) .nil))) (.lc [6] (.nm 6) (.it (.var 4)) (.bl true) (.lst (.cons (.var 6) .nil)))) (.cmp .Is (.fld (.sub (.var 1) (.int 11)) "place") .non))) .nil))))))))))
theorem c__law_by_hand : Ev.chkSs n__law_by_hand (defScope s__law_by_hand) b__law_by_hand (defBody s__law_by_hand) = true := by decide +kernel
theorem sc__law_by_hand : FnScope n__law_by_hand p__law_by_hand (defScope s__law_by_hand) := ⟨rfl, rfl, rfl, by decide +kernel, rfl, by decide +kernel, by decide +kernel⟩
def f__law_by_hand : List Ev.D → Option (Except Ev.Xv Ev.D) := Ev.runP G4 7 1 b__law_by_hand
def G5 : Ev.Gt := G4.addP "_law_by_hand" f__law_by_hand
def n_words_of : List Str := ["row"]
def p_words_of : List Str := ["row"]
def b_words_of : Ev.Ss := (.cons (.iff (.or2 (.not (.isi (.var 0) .str)) (.cmp .In (.str "") (.mth .split (.var 0) (.cons (.str " ") .nil)))) (.cons (.ret .non) .nil) .nil) (.cons (.ret (.mth .split (.var 0) (.cons (.str " ") .nil))) .nil))
theorem c_words_of : Ev.chkSs n_words_of (defScope s_words_of) b_words_of (defBody s_words_of) = true := by decide +kernel
theorem sc_words_of : FnScope n_words_of p_words_of (defScope s_words_of) := ⟨rfl, rfl, rfl, by decide +kernel, rfl, by decide +kernel, by decide +kernel⟩
def f_words_of : List Ev.D → Option (Except Ev.Xv Ev.D) := Ev.runP G5 1 1 b_words_of
def G6 : Ev.Gt := G5.addP "words_of" f_words_of
def n_ListReader_words_at : List Str := ["self", "place", "words"]
def p_ListReader_words_at : List Str := ["self", "place"]
def b_ListReader_words_at : Ev.Ss := (.cons (.set 2 (.callP "words_of" (.cons (.sub (.fld (.var 0) "rows") (.var 1)) .nil))) (.cons (.iff (.cmp .Is (.var 2) .non) (.cons (.raise_ "BadRow" (.cons (.bin .Add (.var 1) (.int 1)) (.cons (.int 0) .nil))) .nil) .nil) (.cons (.ret (.var 2)) .nil)))
theorem c_ListReader_words_at : Ev.chkSs n_ListReader_words_at (defScope s_ListReader_words_at) b_ListReader_words_at (defBody s_ListReader_words_at) = true := by decide +kernel
theorem sc_ListReader_words_at : FnScope n_ListReader_words_at p_ListReader_words_at (defScope s_ListReader_words_at) := ⟨rfl, rfl, rfl, by decide +kernel, rfl, by decide +kernel, by decide +kernel⟩
def f_ListReader_words_at : List Ev.W → Ev.Store → Ev.R Ev.W := Ev.runS G6 3 2 b_ListReader_words_at
def G7 : Ev.Gt := G6.addM "ListReader" "words_at" f_ListReader_words_at
def n_number_of : List Str := ["word", "sign"]
def p_number_of : List Str := ["word"]
def b_number_of : Ev.Ss := (.cons (.iff (.or2 (.not (.isi (.var 0) .str)) (.or2 (.not (.chain .LtE .LtE (.int 1) (.bi .len (.cons (.var 0) .nil)) (.glob "MOST_FIGURES"))) (.not (.bi .all (.cons (.lc [1] (.nm 1) (.it (.var 0)) (.bl true) (.cmp .In (.var 1) (.glob "FIGURES"))) .nil))))) (.cons (.ret .non) .nil) .nil) (.cons (.ret (.ite (.and2 (.cmp .Gt (.bi .len (.cons (.var 0) .nil)) (.int 1)) (.cmp .Eq (.sub (.var 0) (.int 0)) (.str "0"))) .non (.bi .int (.cons (.var 0) .nil)))) .nil))
theorem c_number_of : Ev.chkSs n_number_of (defScope s_number_of) b_number_of (defBody s_number_of) = true := by decide +kernel
theorem sc_number_of : FnScope n_number_of p_number_of (defScope s_number_of) := ⟨rfl, rfl, rfl, by decide +kernel, rfl, by decide +kernel, by decide +kernel⟩
def f_number_of : List Ev.D → Option (Except Ev.Xv Ev.D) := Ev.runP G7 2 1 b_number_of
def G8 : Ev.Gt := G7.addP "number_of" f_number_of
def n_is_whole : List Str := ["thing"]
def p_is_whole : List Str := ["thing"]
def b_is_whole : Ev.Ss := (.cons (.ret (.and2 (.isi (.var 0) .int) (.not (.isi (.var 0) .bool)))) .nil)
theorem c_is_whole : Ev.chkSs n_is_whole (defScope s_is_whole) b_is_whole (defBody s_is_whole) = true := by decide +kernel
theorem sc_is_whole : FnScope n_is_whole p_is_whole (defScope s_is_whole) := ⟨rfl, rfl, rfl, by decide +kernel, rfl, by decide +kernel, by decide +kernel⟩
def f_is_whole : List Ev.D → Option (Except Ev.Xv Ev.D) := Ev.runP G8 1 1 b_is_whole
def G9 : Ev.Gt := G8.addP "is_whole" f_is_whole
def n_is_among : List Str := ["thing", "least", "most"]
def p_is_among : List Str := ["thing", "least", "most"]
def b_is_among : Ev.Ss := (.cons (.ret (.and2 (.callP "is_whole" (.cons (.var 0) .nil)) (.chain .LtE .LtE (.var 1) (.var 0) (.var 2)))) .nil)
theorem c_is_among : Ev.chkSs n_is_among (defScope s_is_among) b_is_among (defBody s_is_among) = true := by decide +kernel
theorem sc_is_among : FnScope n_is_among p_is_among (defScope s_is_among) := ⟨rfl, rfl, rfl, by decide +kernel, rfl, by decide +kernel, by decide +kernel⟩
def f_is_among : List Ev.D → Option (Except Ev.Xv Ev.D) := Ev.runP G9 3 3 b_is_among
def G10 : Ev.Gt := G9.addP "is_among" f_is_among
def n_is_name : List Str := ["thing", "sign"]
def p_is_name : List Str := ["thing"]
def b_is_name : Ev.Ss := (.cons (.iff (.or2 (.not (.isi (.var 0) .str)) (.not (.chain .LtE .LtE (.int 1) (.bi .len (.cons (.var 0) .nil)) (.glob "MOST_LETTERS")))) (.cons (.ret (.bl false)) .nil) .nil) (.cons (.ret (.bi .all (.cons (.lc [1] (.nm 1) (.it (.var 0)) (.bl true) (.cmp .In (.var 1) (.glob "LETTERS"))) .nil))) .nil))
theorem c_is_name : Ev.chkSs n_is_name (defScope s_is_name) b_is_name (defBody s_is_name) = true := by decide +kernel
theorem sc_is_name : FnScope n_is_name p_is_name (defScope s_is_name) := ⟨rfl, rfl, rfl, by decide +kernel, rfl, by decide +kernel, by decide +kernel⟩
def f_is_name : List Ev.D → Option (Except Ev.Xv Ev.D) := Ev.runP G10 2 1 b_is_name
def G11 : Ev.Gt := G10.addP "is_name" f_is_name
def n_ListReader_read_day : List Str := ["self", "words", "place"]
def p_ListReader_read_day : List Str := ["self"]
def l_ListReader_read_day_0 : Ev.Ss := (.cons (.iff (.or2 (.cmp .Eq (.bi .len (.cons (.fld (.var 0) "lost") .nil)) (.glob "MOST_LOST")) (.not (.callP "is_name" (.cons (.sub (.var 1) (.var 2)) .nil)))) (.cons (.raise_ "BadRow" (.cons (.int 1) (.cons (.bin .Add (.var 2) (.int 1)) .nil))) .nil) .nil) (.cons (.iff (.and2 (.cmp .NotEq (.fld (.var 0) "lost") (.lst .nil)) (.cmp .LtE (.sub (.var 1) (.var 2)) (.sub (.fld (.var 0) "lost") (.neg (.int 1))))) (.cons (.raise_ "BadRow" (.cons (.int 1) (.cons (.bin .Add (.var 2) (.int 1)) .nil))) .nil) .nil) (.cons (.app (.fld (.var 0) "lost") (.sub (.var 1) (.var 2))) .nil)))
def b_ListReader_read_day : Ev.Ss := (.cons (.set 1 (.meth (.var 0) "words_at" (.cons (.int 0) .nil))) (.cons (.iff (.cmp .NotEq (.sub (.var 1) (.int 0)) (.str "day")) (.cons (.raise_ "BadRow" (.cons (.int 1) (.cons (.int 1) .nil))) .nil) .nil) (.cons (.iff (.or2 (.cmp .Eq (.bi .len (.cons (.var 1) .nil)) (.int 1)) (.not (.callP "is_among" (.cons (.callP "number_of" (.cons (.sub (.var 1) (.int 1)) .nil)) (.cons (.int 1) (.cons (.glob "MOST_DAY") .nil)))))) (.cons (.raise_ "BadRow" (.cons (.int 1) (.cons (.int 2) .nil))) .nil) .nil) (.cons (.fset (.var 0) "day" (.callP "number_of" (.cons (.sub (.var 1) (.int 1)) .nil))) (.cons (.for_ (.nm 2) (.rng2 (.int 2) (.bi .len (.cons (.var 1) .nil))) l_ListReader_read_day_0) .nil)))))
theorem c_ListReader_read_day : Ev.chkSs n_ListReader_read_day (defScope s_ListReader_read_day) b_ListReader_read_day (defBody s_ListReader_read_day) = true := by decide +kernel
theorem sc_ListReader_read_day : FnScope n_ListReader_read_day p_ListReader_read_day (defScope s_ListReader_read_day) := ⟨rfl, rfl, rfl, by decide +kernel, rfl, by decide +kernel, by decide +kernel⟩
def f_ListReader_read_day : List Ev.W → Ev.Store → Ev.R Ev.W := Ev.runS G11 3 1 b_ListReader_read_day
def G12 : Ev.Gt := G11.addM "ListReader" "read_day" f_ListReader_read_day
def n_ListReader___init__ : List Str := ["self", "text"]
def p_ListReader___init__ : List Str := ["self", "text"]
def b_ListReader___init__ : Ev.Ss := (.cons (.fset (.var 0) "rows" (.mth .split (.var 1) (.cons (.str "\n") .nil))) (.cons (.fset (.var 0) "day" (.int 0)) (.cons (.fset (.var 0) "lost" .nlst) (.cons (.fset (.var 0) "lines" .nlst) .nil))))
theorem c_ListReader___init__ : Ev.chkSs n_ListReader___init__ (defScope s_ListReader___init__) b_ListReader___init__ (defBody s_ListReader___init__) = true := by decide +kernel
theorem sc_ListReader___init__ : FnScope n_ListReader___init__ p_ListReader___init__ (defScope s_ListReader___init__) := ⟨rfl, rfl, rfl, by decide +kernel, rfl, by decide +kernel, by decide +kernel⟩
def f_ListReader___init__ : List Ev.W → Ev.Store → Ev.R Ev.W := Ev.runS G12 2 2 b_ListReader___init__
def G13 : Ev.Gt := G12.addI "ListReader" f_ListReader___init__
def n_ListReader_may_stand : List Str := ["self", "word", "place"]
def p_ListReader_may_stand : List Str := ["self", "word", "place"]
def b_ListReader_may_stand : Ev.Ss := (.cons (.iff (.cmp .Lt (.var 2) (.int 3)) (.cons (.ret (.and2 (.callP "is_name" (.cons (.var 1) .nil)) (.or2 (.cmp .Gt (.var 2) (.int 0)) (.cmp .NotIn (.var 1) (.fld (.var 0) "lost"))))) .nil) .nil) (.cons (.ret (.ite (.cmp .Eq (.var 2) (.int 3)) (.cmp .In (.var 1) (.glob "STATES")) (.callP "is_among" (.cons (.callP "number_of" (.cons (.var 1) .nil)) (.cons (.int 1) (.cons (.glob "MOST_LIKE") .nil)))))) .nil))
theorem c_ListReader_may_stand : Ev.chkSs n_ListReader_may_stand (defScope s_ListReader_may_stand) b_ListReader_may_stand (defBody s_ListReader_may_stand) = true := by decide +kernel
theorem sc_ListReader_may_stand : FnScope n_ListReader_may_stand p_ListReader_may_stand (defScope s_ListReader_may_stand) := ⟨rfl, rfl, rfl, by decide +kernel, rfl, by decide +kernel, by decide +kernel⟩
def f_ListReader_may_stand : List Ev.W → Ev.Store → Ev.R Ev.W := Ev.runS G13 3 3 b_ListReader_may_stand
def G14 : Ev.Gt := G13.addM "ListReader" "may_stand" f_ListReader_may_stand
def n_ListReader_read_line : List Str := ["self", "place", "words", "ahead", "spot"]
def p_ListReader_read_line : List Str := ["self", "place"]
def l_ListReader_read_line_0 : Ev.Ss := (.cons (.iff (.or2 (.cmp .Eq (.var 4) (.bi .len (.cons (.var 2) .nil))) (.not (.meth (.var 0) "may_stand" (.cons (.sub (.var 2) (.var 4)) (.cons (.var 4) .nil))))) (.cons (.raise_ "BadRow" (.cons (.bin .Add (.var 1) (.int 1)) (.cons (.bin .Add (.var 4) (.int 1)) .nil))) .nil) .nil) (.cons (.iff (.and2 (.cmp .IsNot (.var 3) .non) (.cmp .Lt (.var 4) (.int 4))) (.cons (.iff (.or2 (.cmp .Lt (.sub (.var 2) (.var 4)) (.sub (.var 3) (.var 4))) (.and2 (.cmp .Eq (.var 4) (.int 3)) (.cmp .Eq (.sub (.var 2) (.var 4)) (.sub (.var 3) (.var 4))))) (.cons (.raise_ "BadRow" (.cons (.bin .Add (.var 1) (.int 1)) (.cons (.bin .Add (.var 4) (.int 1)) .nil))) .nil) .nil) (.cons (.set 3 (.ite (.cmp .Eq (.sub (.var 2) (.var 4)) (.sub (.var 3) (.var 4))) (.var 3) .non)) .nil)) .nil) .nil))
def b_ListReader_read_line : Ev.Ss := (.cons (.set 2 (.meth (.var 0) "words_at" (.cons (.var 1) .nil))) (.cons (.iff (.cmp .Eq (.bi .len (.cons (.fld (.var 0) "lines") .nil)) (.glob "MOST_LINES")) (.cons (.raise_ "BadRow" (.cons (.bin .Add (.var 1) (.int 1)) (.cons (.int 0) .nil))) .nil) .nil) (.cons (.set 3 (.ite (.cmp .NotEq (.fld (.var 0) "lines") (.lst .nil)) (.sub (.fld (.var 0) "lines") (.neg (.int 1))) .non)) (.cons (.for_ (.nm 4) (.rng1 (.int 5)) l_ListReader_read_line_0) (.cons (.iff (.cmp .Gt (.bi .len (.cons (.var 2) .nil)) (.int 5)) (.cons (.raise_ "BadRow" (.cons (.bin .Add (.var 1) (.int 1)) (.cons (.int 6) .nil))) .nil) .nil) (.cons (.app (.fld (.var 0) "lines") (.bin .Add (.bi .tuple (.cons (.slc (.var 2) .absent (.int 4)) .nil)) (.tup (.cons (.callP "number_of" (.cons (.sub (.var 2) (.int 4)) .nil)) .nil)))) .nil))))))
theorem c_ListReader_read_line : Ev.chkSs n_ListReader_read_line (defScope s_ListReader_read_line) b_ListReader_read_line (defBody s_ListReader_read_line) = true := by decide +kernel
theorem sc_ListReader_read_line : FnScope n_ListReader_read_line p_ListReader_read_line (defScope s_ListReader_read_line) := ⟨rfl, rfl, rfl, by decide +kernel, rfl, by decide +kernel, by decide +kernel⟩
def f_ListReader_read_line : List Ev.W → Ev.Store → Ev.R Ev.W := Ev.runS G14 5 2 b_ListReader_read_line
def G15 : Ev.Gt := G14.addM "ListReader" "read_line" f_ListReader_read_line
def n_read_list : List Str := ["text", "reader", "place"]
def p_read_list : List Str := ["text"]
def l_read_list_0 : Ev.Ss := (.cons (.expr (.meth (.var 1) "read_line" (.cons (.var 2) .nil))) .nil)
def b_read_list : Ev.Ss := (.cons (.iff (.not (.isi (.var 0) .str)) (.cons (.raise_ "BadRow" (.cons (.int 0) (.cons (.int 0) .nil))) .nil) .nil) (.cons (.set 1 (.new "ListReader" (.cons (.var 0) .nil))) (.cons (.expr (.meth (.var 1) "read_day" .nil)) (.cons (.for_ (.nm 2) (.rng2 (.int 1) (.bi .len (.cons (.fld (.var 1) "rows") .nil))) l_read_list_0) (.cons (.ret (.tup (.cons (.fld (.var 1) "day") (.cons (.bi .tuple (.cons (.fld (.var 1) "lines") .nil)) (.cons (.bi .tuple (.cons (.fld (.var 1) "lost") .nil)) .nil))))) .nil)))))
theorem c_read_list : Ev.chkSs n_read_list (defScope s_read_list) b_read_list (defBody s_read_list) = true := by decide +kernel
theorem sc_read_list : FnScope n_read_list p_read_list (defScope s_read_list) := ⟨rfl, rfl, rfl, by decide +kernel, rfl, by decide +kernel, by decide +kernel⟩
def f_read_list : List Ev.D → Option (Except Ev.Xv Ev.D) := Ev.runP G15 3 1 b_read_list
def G16 : Ev.Gt := G15.addP "read_list" f_read_list
def n_is_group : List Str := ["thing", "one", "later"]
def p_is_group : List Str := ["thing"]
def b_is_group : Ev.Ss := (.cons (.iff (.or2 (.not (.isi (.var 0) .tuple)) (.or2 (.not (.chain .LtE .LtE (.int 2) (.bi .len (.cons (.var 0) .nil)) (.glob "MOST_NAMES"))) (.not (.bi .all (.cons (.lc [1] (.nm 1) (.it (.var 0)) (.bl true) (.callP "is_name" (.cons (.var 1) .nil))) .nil))))) (.cons (.ret (.bl false)) .nil) .nil) (.cons (.ret (.bi .all (.cons (.lc [1, 2] (.cons (.nm 1) (.cons (.nm 2) .nil)) (.zip (.var 0) (.slc (.var 0) (.int 1) .absent)) (.bl true) (.cmp .Lt (.var 1) (.var 2))) .nil))) .nil))
theorem c_is_group : Ev.chkSs n_is_group (defScope s_is_group) b_is_group (defBody s_is_group) = true := by decide +kernel
theorem sc_is_group : FnScope n_is_group p_is_group (defScope s_is_group) := ⟨rfl, rfl, rfl, by decide +kernel, rfl, by decide +kernel, by decide +kernel⟩
def f_is_group : List Ev.D → Option (Except Ev.Xv Ev.D) := Ev.runP G16 3 1 b_is_group
def G17 : Ev.Gt := G16.addP "is_group" f_is_group
def n_bad_group : List Str := ["groups", "known", "number", "group", "name"]
def p_bad_group : List Str := ["groups"]
def l_bad_group_0 : Ev.Ss := (.cons (.dput (.var 1) (.var 4) (.bl true)) .nil)
def l_bad_group_1 : Ev.Ss := (.cons (.iff (.or2 (.not (.callP "is_group" (.cons (.var 3) .nil))) (.bi .any (.cons (.lc [4] (.nm 4) (.it (.var 3)) (.bl true) (.kin false (.var 4) (.var 1))) .nil))) (.cons (.ret (.var 2)) .nil) .nil) (.cons (.iff (.and2 (.cmp .Gt (.var 2) (.int 0)) (.cmp .LtE (.var 3) (.sub (.var 0) (.bin .Sub (.var 2) (.int 1))))) (.cons (.ret (.var 2)) .nil) .nil) (.cons (.for_ (.nm 4) (.it (.var 3)) l_bad_group_0) .nil)))
def b_bad_group : Ev.Ss := (.cons (.set 1 .ndic) (.cons (.for_ (.cons (.nm 2) (.cons (.nm 3) .nil)) (.enm (.var 0)) l_bad_group_1) (.cons (.ret .non) .nil)))
theorem c_bad_group : Ev.chkSs n_bad_group (defScope s_bad_group) b_bad_group (defBody s_bad_group) = true := by decide +kernel
theorem sc_bad_group : FnScope n_bad_group p_bad_group (defScope s_bad_group) := ⟨rfl, rfl, rfl, by decide +kernel, rfl, by decide +kernel, by decide +kernel⟩
def f_bad_group : List Ev.D → Option (Except Ev.Xv Ev.D) := Ev.runP G17 5 1 b_bad_group
def G18 : Ev.Gt := G17.addP "bad_group" f_bad_group
def n_are_calls : List Str := ["thing"]
def p_are_calls : List Str := ["thing"]
def b_are_calls : Ev.Ss := (.cons (.ret (.and2 (.isi (.var 0) .tuple) (.cmp .LtE (.bi .len (.cons (.var 0) .nil)) (.glob "MOST_GROUPS")))) .nil)
theorem c_are_calls : Ev.chkSs n_are_calls (defScope s_are_calls) b_are_calls (defBody s_are_calls) = true := by decide +kernel
theorem sc_are_calls : FnScope n_are_calls p_are_calls (defScope s_are_calls) := ⟨rfl, rfl, rfl, by decide +kernel, rfl, by decide +kernel, by decide +kernel⟩
def f_are_calls : List Ev.D → Option (Except Ev.Xv Ev.D) := Ev.runP G18 1 1 b_are_calls
def G19 : Ev.Gt := G18.addP "are_calls" f_are_calls
def n_need_calls : List Str := ["calls", "number"]
def p_need_calls : List Str := ["calls"]
def b_need_calls : Ev.Ss := (.cons (.iff (.not (.callP "are_calls" (.cons (.var 0) .nil))) (.cons (.raise_ "BadCalls" (.cons .non .nil)) .nil) .nil) (.cons (.set 1 (.callP "bad_group" (.cons (.var 0) .nil))) (.cons (.iff (.cmp .IsNot (.var 1) .non) (.cons (.raise_ "BadCalls" (.cons (.var 1) .nil)) .nil) .nil) .nil)))
theorem c_need_calls : Ev.chkSs n_need_calls (defScope s_need_calls) b_need_calls (defBody s_need_calls) = true := by decide +kernel
theorem sc_need_calls : FnScope n_need_calls p_need_calls (defScope s_need_calls) := ⟨rfl, rfl, rfl, by decide +kernel, rfl, by decide +kernel, by decide +kernel⟩
def f_need_calls : List Ev.D → Option (Except Ev.Xv Ev.D) := Ev.runP G19 2 1 b_need_calls
def G20 : Ev.Gt := G19.addP "need_calls" f_need_calls
def n_are_prices : List Str := ["thing"]
def p_are_prices : List Str := ["thing"]
def b_are_prices : Ev.Ss := (.cons (.ret (.and2 (.isi (.var 0) .tuple) (.cmp .Eq (.bi .len (.cons (.var 0) .nil)) (.bi .len (.cons (.glob "HAPPENINGS") .nil))))) .nil)
theorem c_are_prices : Ev.chkSs n_are_prices (defScope s_are_prices) b_are_prices (defBody s_are_prices) = true := by decide +kernel
theorem sc_are_prices : FnScope n_are_prices p_are_prices (defScope s_are_prices) := ⟨rfl, rfl, rfl, by decide +kernel, rfl, by decide +kernel, by decide +kernel⟩
def f_are_prices : List Ev.D → Option (Except Ev.Xv Ev.D) := Ev.runP G20 1 1 b_are_prices
def G21 : Ev.Gt := G20.addP "are_prices" f_are_prices
def n_need_prices : List Str := ["prices", "number", "price"]
def p_need_prices : List Str := ["prices"]
def l_need_prices_0 : Ev.Ss := (.cons (.iff (.not (.callP "is_among" (.cons (.var 2) (.cons (.int 0) (.cons (.int 9) .nil))))) (.cons (.raise_ "BadPrices" (.cons (.var 1) .nil)) .nil) .nil) .nil)
def b_need_prices : Ev.Ss := (.cons (.iff (.not (.callP "are_prices" (.cons (.var 0) .nil))) (.cons (.raise_ "BadPrices" (.cons .non .nil)) .nil) .nil) (.cons (.for_ (.cons (.nm 1) (.cons (.nm 2) .nil)) (.enm (.var 0)) l_need_prices_0) .nil))
theorem c_need_prices : Ev.chkSs n_need_prices (defScope s_need_prices) b_need_prices (defBody s_need_prices) = true := by decide +kernel
theorem sc_need_prices : FnScope n_need_prices p_need_prices (defScope s_need_prices) := ⟨rfl, rfl, rfl, by decide +kernel, rfl, by decide +kernel, by decide +kernel⟩
def f_need_prices : List Ev.D → Option (Except Ev.Xv Ev.D) := Ev.runP G21 3 1 b_need_prices
def G22 : Ev.Gt := G21.addP "need_prices" f_need_prices
def n_is_line : List Str := ["thing", "one"]
def p_is_line : List Str := ["thing"]
def b_is_line : Ev.Ss := (.cons (.iff (.or2 (.not (.isi (.var 0) .tuple)) (.or2 (.cmp .NotEq (.bi .len (.cons (.var 0) .nil)) (.int 5)) (.not (.bi .all (.cons (.lc [1] (.nm 1) (.it (.slc (.var 0) .absent (.int 3))) (.bl true) (.callP "is_name" (.cons (.var 1) .nil))) .nil))))) (.cons (.ret (.bl false)) .nil) .nil) (.cons (.ret (.and2 (.isi (.sub (.var 0) (.int 3)) .str) (.and2 (.cmp .In (.sub (.var 0) (.int 3)) (.glob "STATES")) (.callP "is_among" (.cons (.sub (.var 0) (.int 4)) (.cons (.int 1) (.cons (.glob "MOST_LIKE") .nil))))))) .nil))
theorem c_is_line : Ev.chkSs n_is_line (defScope s_is_line) b_is_line (defBody s_is_line) = true := by decide +kernel
theorem sc_is_line : FnScope n_is_line p_is_line (defScope s_is_line) := ⟨rfl, rfl, rfl, by decide +kernel, rfl, by decide +kernel, by decide +kernel⟩
def f_is_line : List Ev.D → Option (Except Ev.Xv Ev.D) := Ev.runP G22 2 1 b_is_line
def G23 : Ev.Gt := G22.addP "is_line" f_is_line
def n_bad_line : List Str := ["lines", "number", "line"]
def p_bad_line : List Str := ["lines"]
def l_bad_line_0 : Ev.Ss := (.cons (.iff (.or2 (.not (.callP "is_line" (.cons (.var 2) .nil))) (.and2 (.cmp .Gt (.var 1) (.int 0)) (.cmp .LtE (.slc (.var 2) .absent (.int 4)) (.slc (.sub (.var 0) (.bin .Sub (.var 1) (.int 1))) .absent (.int 4))))) (.cons (.ret (.var 1)) .nil) .nil) .nil)
def b_bad_line : Ev.Ss := (.cons (.for_ (.cons (.nm 1) (.cons (.nm 2) .nil)) (.enm (.var 0)) l_bad_line_0) (.cons (.ret .non) .nil))
theorem c_bad_line : Ev.chkSs n_bad_line (defScope s_bad_line) b_bad_line (defBody s_bad_line) = true := by decide +kernel
theorem sc_bad_line : FnScope n_bad_line p_bad_line (defScope s_bad_line) := ⟨rfl, rfl, rfl, by decide +kernel, rfl, by decide +kernel, by decide +kernel⟩
def f_bad_line : List Ev.D → Option (Except Ev.Xv Ev.D) := Ev.runP G23 3 1 b_bad_line
def G24 : Ev.Gt := G23.addP "bad_line" f_bad_line
def n_bad_room : List Str := ["lost", "lines", "rooms", "line", "number", "room"]
def p_bad_room : List Str := ["lost", "lines"]
def l_bad_room_0 : Ev.Ss := (.cons (.iff (.or2 (.not (.callP "is_name" (.cons (.var 5) .nil))) (.or2 (.cmp .In (.var 5) (.var 2)) (.and2 (.cmp .Gt (.var 4) (.int 0)) (.cmp .LtE (.var 5) (.sub (.var 0) (.bin .Sub (.var 4) (.int 1))))))) (.cons (.ret (.var 4)) .nil) .nil) .nil)
def b_bad_room : Ev.Ss := (.cons (.set 2 (.lc [3] (.nm 3) (.it (.var 1)) (.bl true) (.sub (.var 3) (.int 0)))) (.cons (.for_ (.cons (.nm 4) (.cons (.nm 5) .nil)) (.enm (.var 0)) l_bad_room_0) (.cons (.ret .non) .nil)))
theorem c_bad_room : Ev.chkSs n_bad_room (defScope s_bad_room) b_bad_room (defBody s_bad_room) = true := by decide +kernel
theorem sc_bad_room : FnScope n_bad_room p_bad_room (defScope s_bad_room) := ⟨rfl, rfl, rfl, by decide +kernel, rfl, by decide +kernel, by decide +kernel⟩
def f_bad_room : List Ev.D → Option (Except Ev.Xv Ev.D) := Ev.runP G24 6 2 b_bad_room
def G25 : Ev.Gt := G24.addP "bad_room" f_bad_room
def n_is_day : List Str := ["thing"]
def p_is_day : List Str := ["thing"]
def b_is_day : Ev.Ss := (.cons (.ret (.callP "is_among" (.cons (.var 0) (.cons (.int 1) (.cons (.glob "MOST_DAY") .nil))))) .nil)
theorem c_is_day : Ev.chkSs n_is_day (defScope s_is_day) b_is_day (defBody s_is_day) = true := by decide +kernel
theorem sc_is_day : FnScope n_is_day p_is_day (defScope s_is_day) := ⟨rfl, rfl, rfl, by decide +kernel, rfl, by decide +kernel, by decide +kernel⟩
def f_is_day : List Ev.D → Option (Except Ev.Xv Ev.D) := Ev.runP G25 1 1 b_is_day
def G26 : Ev.Gt := G25.addP "is_day" f_is_day
def n_are_few : List Str := ["thing", "most"]
def p_are_few : List Str := ["thing", "most"]
def b_are_few : Ev.Ss := (.cons (.ret (.and2 (.isi (.var 0) .tuple) (.cmp .LtE (.bi .len (.cons (.var 0) .nil)) (.var 1)))) .nil)
theorem c_are_few : Ev.chkSs n_are_few (defScope s_are_few) b_are_few (defBody s_are_few) = true := by decide +kernel
theorem sc_are_few : FnScope n_are_few p_are_few (defScope s_are_few) := ⟨rfl, rfl, rfl, by decide +kernel, rfl, by decide +kernel, by decide +kernel⟩
def f_are_few : List Ev.D → Option (Except Ev.Xv Ev.D) := Ev.runP G26 2 2 b_are_few
def G27 : Ev.Gt := G26.addP "are_few" f_are_few
def n_first_wrong : List Str := ["thing", "number"]
def p_first_wrong : List Str := ["thing"]
def b_first_wrong : Ev.Ss := (.cons (.iff (.or2 (.not (.isi (.var 0) .tuple)) (.cmp .NotEq (.bi .len (.cons (.var 0) .nil)) (.int 3))) (.cons (.ret (.tup (.cons .non (.cons .non .nil)))) .nil) .nil) (.cons (.iff (.not (.callP "is_day" (.cons (.sub (.var 0) (.int 0)) .nil))) (.cons (.ret (.tup (.cons (.str "day") (.cons .non .nil)))) .nil) .nil) (.cons (.iff (.not (.callP "are_few" (.cons (.sub (.var 0) (.int 1)) (.cons (.glob "MOST_LINES") .nil)))) (.cons (.ret (.tup (.cons (.str "lines") (.cons .non .nil)))) .nil) .nil) (.cons (.iff (.not (.callP "are_few" (.cons (.sub (.var 0) (.int 2)) (.cons (.glob "MOST_LOST") .nil)))) (.cons (.ret (.tup (.cons (.str "lost") (.cons .non .nil)))) .nil) .nil) (.cons (.set 1 (.callP "bad_line" (.cons (.sub (.var 0) (.int 1)) .nil))) (.cons (.iff (.cmp .IsNot (.var 1) .non) (.cons (.ret (.tup (.cons (.str "lines") (.cons (.var 1) .nil)))) .nil) .nil) (.cons (.set 1 (.callP "bad_room" (.cons (.sub (.var 0) (.int 2)) (.cons (.sub (.var 0) (.int 1)) .nil)))) (.cons (.ret (.ite (.cmp .Is (.var 1) .non) .non (.tup (.cons (.str "lost") (.cons (.var 1) .nil))))) .nil))))))))
theorem c_first_wrong : Ev.chkSs n_first_wrong (defScope s_first_wrong) b_first_wrong (defBody s_first_wrong) = true := by decide +kernel
theorem sc_first_wrong : FnScope n_first_wrong p_first_wrong (defScope s_first_wrong) := ⟨rfl, rfl, rfl, by decide +kernel, rfl, by decide +kernel, by decide +kernel⟩
def f_first_wrong : List Ev.D → Option (Except Ev.Xv Ev.D) := Ev.runP G27 2 1 b_first_wrong
def G28 : Ev.Gt := G27.addP "first_wrong" f_first_wrong
def n_need_list : List Str := ["told", "wrong"]
def p_need_list : List Str := ["told"]
def b_need_list : Ev.Ss := (.cons (.set 1 (.callP "first_wrong" (.cons (.var 0) .nil))) (.cons (.iff (.cmp .IsNot (.var 1) .non) (.cons (.raise_ "BadList" (.cons (.sub (.var 1) (.int 0)) (.cons (.sub (.var 1) (.int 1)) .nil))) .nil) .nil) .nil))
theorem c_need_list : Ev.chkSs n_need_list (defScope s_need_list) b_need_list (defBody s_need_list) = true := by decide +kernel
theorem sc_need_list : FnScope n_need_list p_need_list (defScope s_need_list) := ⟨rfl, rfl, rfl, by decide +kernel, rfl, by decide +kernel, by decide +kernel⟩
def f_need_list : List Ev.D → Option (Except Ev.Xv Ev.D) := Ev.runP G28 2 1 b_need_list
def G29 : Ev.Gt := G28.addP "need_list" f_need_list
def n_is_list : List Str := ["thing"]
def p_is_list : List Str := ["thing"]
def b_is_list : Ev.Ss := (.cons (.ret (.cmp .Is (.callP "first_wrong" (.cons (.var 0) .nil)) .non)) .nil)
theorem c_is_list : Ev.chkSs n_is_list (defScope s_is_list) b_is_list (defBody s_is_list) = true := by decide +kernel
theorem sc_is_list : FnScope n_is_list p_is_list (defScope s_is_list) := ⟨rfl, rfl, rfl, by decide +kernel, rfl, by decide +kernel, by decide +kernel⟩
def f_is_list : List Ev.D → Option (Except Ev.Xv Ev.D) := Ev.runP G29 1 1 b_is_list
def G30 : Ev.Gt := G29.addP "is_list" f_is_list
def n_bad_among : List Str := ["lists", "number", "told"]
def p_bad_among : List Str := ["lists"]
def l_bad_among_0 : Ev.Ss := (.cons (.iff (.or2 (.not (.callP "is_list" (.cons (.var 2) .nil))) (.and2 (.cmp .Gt (.var 1) (.int 0)) (.cmp .LtE (.sub (.var 2) (.int 0)) (.sub (.sub (.var 0) (.bin .Sub (.var 1) (.int 1))) (.int 0))))) (.cons (.ret (.var 1)) .nil) .nil) .nil)
def b_bad_among : Ev.Ss := (.cons (.for_ (.cons (.nm 1) (.cons (.nm 2) .nil)) (.enm (.var 0)) l_bad_among_0) (.cons (.ret .non) .nil))
theorem c_bad_among : Ev.chkSs n_bad_among (defScope s_bad_among) b_bad_among (defBody s_bad_among) = true := by decide +kernel
theorem sc_bad_among : FnScope n_bad_among p_bad_among (defScope s_bad_among) := ⟨rfl, rfl, rfl, by decide +kernel, rfl, by decide +kernel, by decide +kernel⟩
def f_bad_among : List Ev.D → Option (Except Ev.Xv Ev.D) := Ev.runP G30 3 1 b_bad_among
def G31 : Ev.Gt := G30.addP "bad_among" f_bad_among
def n_need_lists : List Str := ["lists", "number"]
def p_need_lists : List Str := ["lists"]
def b_need_lists : Ev.Ss := (.cons (.iff (.not (.callP "are_few" (.cons (.var 0) (.cons (.glob "MOST_LISTS") .nil)))) (.cons (.raise_ "BadList" (.cons (.str "lists") (.cons .non .nil))) .nil) .nil) (.cons (.set 1 (.callP "bad_among" (.cons (.var 0) .nil))) (.cons (.iff (.cmp .IsNot (.var 1) .non) (.cons (.raise_ "BadList" (.cons (.str "lists") (.cons (.var 1) .nil))) .nil) .nil) .nil)))
theorem c_need_lists : Ev.chkSs n_need_lists (defScope s_need_lists) b_need_lists (defBody s_need_lists) = true := by decide +kernel
theorem sc_need_lists : FnScope n_need_lists p_need_lists (defScope s_need_lists) := ⟨rfl, rfl, rfl, by decide +kernel, rfl, by decide +kernel, by decide +kernel⟩
def f_need_lists : List Ev.D → Option (Except Ev.Xv Ev.D) := Ev.runP G31 2 1 b_need_lists
def G32 : Ev.Gt := G31.addP "need_lists" f_need_lists
def n_list_text : List Str := ["told", "rows", "line"]
def p_list_text : List Str := ["told"]
def l_list_text_0 : Ev.Ss := (.cons (.app (.var 1) (.mth .join (.str " ") (.cons (.bin .Add (.slc (.var 2) .absent (.int 4)) (.tup (.cons (.bi .str (.cons (.sub (.var 2) (.int 4)) .nil)) .nil))) .nil))) .nil)
def b_list_text : Ev.Ss := (.cons (.expr (.callP "need_list" (.cons (.var 0) .nil))) (.cons (.set 1 (.lstc (.cons (.mth .join (.str " ") (.cons (.bin .Add (.lst (.cons (.str "day") (.cons (.bi .str (.cons (.sub (.var 0) (.int 0)) .nil)) .nil))) (.bi .list (.cons (.sub (.var 0) (.int 2)) .nil))) .nil)) .nil))) (.cons (.for_ (.nm 2) (.it (.sub (.var 0) (.int 1))) l_list_text_0) (.cons (.ret (.mth .join (.str "\n") (.cons (.var 1) .nil))) .nil))))
theorem c_list_text : Ev.chkSs n_list_text (defScope s_list_text) b_list_text (defBody s_list_text) = true := by decide +kernel
theorem sc_list_text : FnScope n_list_text p_list_text (defScope s_list_text) := ⟨rfl, rfl, rfl, by decide +kernel, rfl, by decide +kernel, by decide +kernel⟩
def f_list_text : List Ev.D → Option (Except Ev.Xv Ev.D) := Ev.runP G32 3 1 b_list_text
def G33 : Ev.Gt := G32.addP "list_text" f_list_text
def n_group_in : List Str := ["calls", "name", "found", "group"]
def p_group_in : List Str := ["calls", "name"]
def b_group_in : Ev.Ss := (.cons (.set 2 (.lc [3] (.nm 3) (.it (.var 0)) (.cmp .In (.var 1) (.var 3)) (.var 3))) (.cons (.ret (.ite (.cmp .NotEq (.var 2) (.lst .nil)) (.sub (.var 2) (.int 0)) (.tup (.cons (.var 1) .nil)))) .nil))
theorem c_group_in : Ev.chkSs n_group_in (defScope s_group_in) b_group_in (defBody s_group_in) = true := by decide +kernel
theorem sc_group_in : FnScope n_group_in p_group_in (defScope s_group_in) := ⟨rfl, rfl, rfl, by decide +kernel, rfl, by decide +kernel, by decide +kernel⟩
def f_group_in : List Ev.D → Option (Except Ev.Xv Ev.D) := Ev.runP G33 4 2 b_group_in
def G34 : Ev.Gt := G33.addP "group_in" f_group_in
def n_group_of : List Str := ["calls", "name"]
def p_group_of : List Str := ["calls", "name"]
def b_group_of : Ev.Ss := (.cons (.expr (.callP "need_calls" (.cons (.var 0) .nil))) (.cons (.iff (.not (.callP "is_name" (.cons (.var 1) .nil))) (.cons (.raise_ "OutOfPlace" (.cons (.str "no name") .nil)) .nil) .nil) (.cons (.ret (.callP "group_in" (.cons (.var 0) (.cons (.var 1) .nil)))) .nil)))
theorem c_group_of : Ev.chkSs n_group_of (defScope s_group_of) b_group_of (defBody s_group_of) = true := by decide +kernel
theorem sc_group_of : FnScope n_group_of p_group_of (defScope s_group_of) := ⟨rfl, rfl, rfl, by decide +kernel, rfl, by decide +kernel, by decide +kernel⟩
def f_group_of : List Ev.D → Option (Except Ev.Xv Ev.D) := Ev.runP G34 2 2 b_group_of
def G35 : Ev.Gt := G34.addP "group_of" f_group_of
def n_price_in : List Str := ["prices", "happening"]
def p_price_in : List Str := ["prices", "happening"]
def b_price_in : Ev.Ss := (.cons (.ret (.sub (.var 0) (.tix "HAPPENINGS" (.var 1)))) .nil)
theorem c_price_in : Ev.chkSs n_price_in (defScope s_price_in) b_price_in (defBody s_price_in) = true := by decide +kernel
theorem sc_price_in : FnScope n_price_in p_price_in (defScope s_price_in) := ⟨rfl, rfl, rfl, by decide +kernel, rfl, by decide +kernel, by decide +kernel⟩
def f_price_in : List Ev.D → Option (Except Ev.Xv Ev.D) := Ev.runP G35 2 2 b_price_in
def G36 : Ev.Gt := G35.addP "price_in" f_price_in
def n_price_of : List Str := ["prices", "happening"]
def p_price_of : List Str := ["prices", "happening"]
def b_price_of : Ev.Ss := (.cons (.expr (.callP "need_prices" (.cons (.var 0) .nil))) (.cons (.iff (.or2 (.not (.isi (.var 1) .str)) (.cmp .NotIn (.var 1) (.glob "HAPPENINGS"))) (.cons (.raise_ "OutOfPlace" (.cons (.str "no such happening") .nil)) .nil) .nil) (.cons (.ret (.callP "price_in" (.cons (.var 0) (.cons (.var 1) .nil)))) .nil)))
theorem c_price_of : Ev.chkSs n_price_of (defScope s_price_of) b_price_of (defBody s_price_of) = true := by decide +kernel
theorem sc_price_of : FnScope n_price_of p_price_of (defScope s_price_of) := ⟨rfl, rfl, rfl, by decide +kernel, rfl, by decide +kernel, by decide +kernel⟩
def f_price_of : List Ev.D → Option (Except Ev.Xv Ev.D) := Ev.runP G36 2 2 b_price_of
def G37 : Ev.Gt := G36.addP "price_of" f_price_of
def n__law_told : List Str := ["_law_way", "_law_thing", "_law_wrong", "e"]
def p__law_told : List Str := ["_law_way", "_law_thing"]
def b__law_told : Ev.Ss := (.cons (.set 2 .non) (.cons (.tryk (.cons (.iff (.cmp .Eq (.var 0) (.int 0)) (.cons (.expr (.callP "read_list" (.cons (.var 1) .nil))) .nil) (.cons (.iff (.cmp .Eq (.var 0) (.int 1)) (.cons (.expr (.callP "need_calls" (.cons (.var 1) .nil))) .nil) (.cons (.iff (.cmp .Eq (.var 0) (.int 2)) (.cons (.expr (.callP "need_prices" (.cons (.var 1) .nil))) .nil) (.cons (.iff (.cmp .Eq (.var 0) (.int 3)) (.cons (.expr (.callP "need_list" (.cons (.var 1) .nil))) .nil) (.cons (.iff (.cmp .Eq (.var 0) (.int 4)) (.cons (.expr (.callP "need_lists" (.cons (.var 1) .nil))) .nil) (.cons (.iff (.cmp .Eq (.var 0) (.int 5)) (.cons (.expr (.callP "list_text" (.cons (.var 1) .nil))) .nil) (.cons (.iff (.cmp .Eq (.var 0) (.int 6)) (.cons (.expr (.callP "group_of" (.cons (.tup (.cons (.tup (.cons (.str "a") (.cons (.str "b") .nil))) .nil)) (.cons (.var 1) .nil)))) .nil) (.cons (.expr (.callP "price_of" (.cons (.bin .Mult (.tup (.cons (.int 1) .nil)) (.int 8)) (.cons (.var 1) .nil)))) .nil)) .nil)) .nil)) .nil)) .nil)) .nil)) .nil)) .nil) "ListError" 3 2) (.cons (.ret (.ite (.cmp .Is (.var 2) .non) .non (.callP "_law_kinds" (.cons (.var 2) .nil)))) .nil)))
theorem c__law_told : Ev.chkSs n__law_told (defScope s__law_told) b__law_told (defBody s__law_told) = true := by decide +kernel
theorem sc__law_told : FnScope n__law_told p__law_told (defScope s__law_told) := ⟨rfl, rfl, rfl, by decide +kernel, rfl, by decide +kernel, by decide +kernel⟩
def f__law_told : List Ev.D → Option (Except Ev.Xv Ev.D) := Ev.runP G37 4 2 b__law_told
def G38 : Ev.Gt := G37.addP "_law_told" f__law_told
def n_law : List Str := ["_law_script", "_law_due", "_law_k", "_law_cell", "_law_state", "_law_number", "_law_odd", "_law_way"]
def p_law : List Str := ["_law_script"]
def l_law_0 : Ev.Ss := (.cons (.set 4 (.callS "_law_draw" (.cons (.var 3) (.cons (.var 2) .nil)))) (.cons (.set 5 (.sub (.lst (.cons (.bin .Sub (.callS "_law_digit" (.cons (.var 4) (.cons (.bin .Pow (.int 10) (.int 9)) .nil))) (.int 400)) (.cons (.var 3) .nil))) (.callS "_law_digit" (.cons (.var 4) (.cons (.int 2) .nil))))) (.cons (.iff (.not (.callP "_law_by_hand" (.cons (.var 5) .nil))) (.cons (.ret (.bl false)) .nil) .nil) (.cons (.set 6 (.sub (.lst (.cons .non (.cons (.int 7) (.cons (.bl true) (.cons (.lst .nil) (.cons .ndic (.cons (.str "") (.cons (.str "A") (.cons (.lst (.cons (.str "b") .nil)) (.cons (.var 5) (.cons (.bin .Mult (.tup (.cons (.int 1) .nil)) (.int 9)) (.cons (.tup (.cons (.str "b") .nil)) .nil)))))))))))) (.callS "_law_digit" (.cons (.var 4) (.cons (.int 11) .nil))))) (.cons (.iff (.cmp .NotEq (.lc [7] (.nm 7) (.rng1 (.int 8)) (.bl true) (.callP "_law_told" (.cons (.var 7) (.cons (.var 6) .nil)))) (.var 1)) (.cons (.ret (.bl false)) .nil) .nil) .nil)))))
def b_law : Ev.Ss := (.cons (.set 1 (.lst (.cons (.lst (.cons (.str "row") .nil)) (.cons (.lst (.cons (.str "calls") .nil)) (.cons (.lst (.cons (.str "prices") .nil)) (.cons (.lst (.cons (.str "list") .nil)) (.cons (.lst (.cons (.str "list") .nil)) (.cons (.lst (.cons (.str "list") .nil)) (.cons (.lst (.cons (.str "place") .nil)) (.cons (.lst (.cons (.str "place") .nil)) .nil)))))))))) (.cons (.for_ (.cons (.nm 2) (.cons (.nm 3) .nil)) (.enm (.bin .Add (.slc (.var 0) .absent (.int 8)) (.lst (.cons (.bi .sum (.cons (.var 0) .nil)) .nil)))) l_law_0) (.cons (.ret (.cmp .Eq (.lst (.cons (.callP "_law_told" (.cons (.int 0) (.cons (.str "day 1") .nil))) (.cons (.callP "_law_told" (.cons (.int 6) (.cons (.str "gone") .nil))) (.cons (.callP "_law_told" (.cons (.int 7) (.cons (.str "gone") .nil))) (.cons (.callP "_law_told" (.cons (.int 4) (.cons (.tup .nil) .nil))) .nil))))) (.bin .Mult (.lst (.cons .non .nil)) (.int 4)))) .nil)))
theorem c_law : Ev.chkSs n_law (defScope s_law) b_law (defBody s_law) = true := by decide +kernel
theorem sc_law : FnScope n_law p_law (defScope s_law) := ⟨rfl, rfl, rfl, by decide +kernel, rfl, by decide +kernel, by decide +kernel⟩
def f_law : List Ev.D → Option (Except Ev.Xv Ev.D) := Ev.runP G38 8 1 b_law
def G39 : Ev.Gt := G38.addP "law" f_law
def n_BadRow___init__ : List Str := ["self", "row", "word"]
theorem sc_BadRow___init__ : FnScope n_BadRow___init__ n_BadRow___init__ (defScope s_BadRow___init__) := ⟨rfl, rfl, rfl, by decide +kernel, rfl, by decide +kernel, by decide +kernel⟩
def n_BadCalls___init__ : List Str := ["self", "number"]
theorem sc_BadCalls___init__ : FnScope n_BadCalls___init__ n_BadCalls___init__ (defScope s_BadCalls___init__) := ⟨rfl, rfl, rfl, by decide +kernel, rfl, by decide +kernel, by decide +kernel⟩
def n_BadPrices___init__ : List Str := ["self", "number"]
theorem sc_BadPrices___init__ : FnScope n_BadPrices___init__ n_BadPrices___init__ (defScope s_BadPrices___init__) := ⟨rfl, rfl, rfl, by decide +kernel, rfl, by decide +kernel, by decide +kernel⟩
def n_BadList___init__ : List Str := ["self", "part", "number"]
theorem sc_BadList___init__ : FnScope n_BadList___init__ n_BadList___init__ (defScope s_BadList___init__) := ⟨rfl, rfl, rfl, by decide +kernel, rfl, by decide +kernel, by decide +kernel⟩
def n_BadWays___init__ : List Str := ["self", "number"]
theorem sc_BadWays___init__ : FnScope n_BadWays___init__ n_BadWays___init__ (defScope s_BadWays___init__) := ⟨rfl, rfl, rfl, by decide +kernel, rfl, by decide +kernel, by decide +kernel⟩
def n_BadSet___init__ : List Str := ["self", "number"]
theorem sc_BadSet___init__ : FnScope n_BadSet___init__ n_BadSet___init__ (defScope s_BadSet___init__) := ⟨rfl, rfl, rfl, by decide +kernel, rfl, by decide +kernel, by decide +kernel⟩
def n_BadPaper___init__ : List Str := ["self", "place"]
theorem sc_BadPaper___init__ : FnScope n_BadPaper___init__ n_BadPaper___init__ (defScope s_BadPaper___init__) := ⟨rfl, rfl, rfl, by decide +kernel, rfl, by decide +kernel, by decide +kernel⟩
theorem facts {P : Program} {w : World} {K : PySem.W.Frag} {h : Heap} {mg : Str → Option Value} {f : Addr} (X : K.In h) (Gm : h.Ns mainGlobals mg) (hfa : mg ("law" : Str) = some (.ref f)) (c0 : He.SaysD faB fn K) (hxF : exF K = true) :
    ∃ fd : FuncData, (∀ (s : Shared) (v : Value), BindsTo s fd ⟨[v], []⟩ [("_law_script", v)]) ∧ ∀ base : Heap, K.In base → base.Ns mainGlobals mg → Ev.FnG P w K mg base 42 f fd ["_law_script"] (Ev.spP (Ev.isXv K) K 1 f_law) := by
  obtain ⟨fd__law_draw, F__law_draw⟩ := c0.def_ 41 (d := d__law_draw) rfl
  obtain ⟨fd__law_mixed, F__law_mixed⟩ := c0.def_ 39 (d := d__law_mixed) rfl
  obtain ⟨fd__law_digit, F__law_digit⟩ := c0.def_ 42 (d := d__law_digit) rfl
  obtain ⟨fd__law_kinds, F__law_kinds⟩ := c0.def_ 40 (d := d__law_kinds) rfl
  obtain ⟨fd__law_by_hand, F__law_by_hand⟩ := c0.def_ 43 (d := d__law_by_hand) rfl
  obtain ⟨fd_words_of, F_words_of⟩ := c0.def_ 11 (d := d_words_of) rfl
  obtain ⟨fd_ListReader_words_at, F_ListReader_words_at⟩ := c0.def_ 34 (d := d_ListReader_words_at) rfl
  obtain ⟨fd_number_of, F_number_of⟩ := c0.def_ 10 (d := d_number_of) rfl
  obtain ⟨fd_is_whole, F_is_whole⟩ := c0.def_ 7 (d := d_is_whole) rfl
  obtain ⟨fd_is_among, F_is_among⟩ := c0.def_ 8 (d := d_is_among) rfl
  obtain ⟨fd_is_name, F_is_name⟩ := c0.def_ 9 (d := d_is_name) rfl
  obtain ⟨fd_ListReader_read_day, F_ListReader_read_day⟩ := c0.def_ 35 (d := d_ListReader_read_day) rfl
  obtain ⟨fd_ListReader___init__, F_ListReader___init__⟩ := c0.def_ 33 (d := d_ListReader___init__) rfl
  obtain ⟨fd_ListReader_may_stand, F_ListReader_may_stand⟩ := c0.def_ 36 (d := d_ListReader_may_stand) rfl
  obtain ⟨fd_ListReader_read_line, F_ListReader_read_line⟩ := c0.def_ 37 (d := d_ListReader_read_line) rfl
  obtain ⟨fd_read_list, F_read_list⟩ := c0.def_ 38 (d := d_read_list) rfl
  obtain ⟨fd_is_group, F_is_group⟩ := c0.def_ 12 (d := d_is_group) rfl
  obtain ⟨fd_bad_group, F_bad_group⟩ := c0.def_ 13 (d := d_bad_group) rfl
  obtain ⟨fd_are_calls, F_are_calls⟩ := c0.def_ 14 (d := d_are_calls) rfl
  obtain ⟨fd_need_calls, F_need_calls⟩ := c0.def_ 15 (d := d_need_calls) rfl
  obtain ⟨fd_are_prices, F_are_prices⟩ := c0.def_ 18 (d := d_are_prices) rfl
  obtain ⟨fd_need_prices, F_need_prices⟩ := c0.def_ 19 (d := d_need_prices) rfl
  obtain ⟨fd_is_line, F_is_line⟩ := c0.def_ 23 (d := d_is_line) rfl
  obtain ⟨fd_bad_line, F_bad_line⟩ := c0.def_ 24 (d := d_bad_line) rfl
  obtain ⟨fd_bad_room, F_bad_room⟩ := c0.def_ 25 (d := d_bad_room) rfl
  obtain ⟨fd_is_day, F_is_day⟩ := c0.def_ 22 (d := d_is_day) rfl
  obtain ⟨fd_are_few, F_are_few⟩ := c0.def_ 26 (d := d_are_few) rfl
  obtain ⟨fd_first_wrong, F_first_wrong⟩ := c0.def_ 27 (d := d_first_wrong) rfl
  obtain ⟨fd_need_list, F_need_list⟩ := c0.def_ 29 (d := d_need_list) rfl
  obtain ⟨fd_is_list, F_is_list⟩ := c0.def_ 28 (d := d_is_list) rfl
  obtain ⟨fd_bad_among, F_bad_among⟩ := c0.def_ 30 (d := d_bad_among) rfl
  obtain ⟨fd_need_lists, F_need_lists⟩ := c0.def_ 31 (d := d_need_lists) rfl
  obtain ⟨fd_list_text, F_list_text⟩ := c0.def_ 32 (d := d_list_text) rfl
  obtain ⟨fd_group_in, F_group_in⟩ := c0.def_ 16 (d := d_group_in) rfl
  obtain ⟨fd_group_of, F_group_of⟩ := c0.def_ 17 (d := d_group_of) rfl
  obtain ⟨fd_price_in, F_price_in⟩ := c0.def_ 20 (d := d_price_in) rfl
  obtain ⟨fd_price_of, F_price_of⟩ := c0.def_ 21 (d := d_price_of) rfl
  obtain ⟨fd__law_told, F__law_told⟩ := c0.def_ 44 (d := d__law_told) rfl
  obtain ⟨fd_law, F_law⟩ := c0.def_ 45 (d := d_law) rfl
  have inB : ∀ {q : He.Fa}, q ∈ fa → q ∈ faB := fun h => List.mem_append_left _ h
  have m__law_draw := He.glo_ok X Gm (c0.facts (f := .glo "_law_draw") (inB (by simp [fa, fa_0, fa_1, fa_2, fa_3])))
  have m__law_mixed := He.glo_ok X Gm (c0.facts (f := .glo "_law_mixed") (inB (by simp [fa, fa_0, fa_1, fa_2, fa_3])))
  have m__law_digit := He.glo_ok X Gm (c0.facts (f := .glo "_law_digit") (inB (by simp [fa, fa_0, fa_1, fa_2, fa_3])))
  have m__law_kinds := He.glo_ok X Gm (c0.facts (f := .glo "_law_kinds") (inB (by simp [fa, fa_0, fa_1, fa_2, fa_3])))
  have m__law_by_hand := He.glo_ok X Gm (c0.facts (f := .glo "_law_by_hand") (inB (by simp [fa, fa_0, fa_1, fa_2, fa_3])))
  have m_words_of := He.glo_ok X Gm (c0.facts (f := .glo "words_of") (inB (by simp [fa, fa_0, fa_1, fa_2, fa_3])))
  have m_number_of := He.glo_ok X Gm (c0.facts (f := .glo "number_of") (inB (by simp [fa, fa_0, fa_1, fa_2, fa_3])))
  have m_is_whole := He.glo_ok X Gm (c0.facts (f := .glo "is_whole") (inB (by simp [fa, fa_0, fa_1, fa_2, fa_3])))
  have m_is_among := He.glo_ok X Gm (c0.facts (f := .glo "is_among") (inB (by simp [fa, fa_0, fa_1, fa_2, fa_3])))
  have m_is_name := He.glo_ok X Gm (c0.facts (f := .glo "is_name") (inB (by simp [fa, fa_0, fa_1, fa_2, fa_3])))
  have m_read_list := He.glo_ok X Gm (c0.facts (f := .glo "read_list") (inB (by simp [fa, fa_0, fa_1, fa_2, fa_3])))
  have m_is_group := He.glo_ok X Gm (c0.facts (f := .glo "is_group") (inB (by simp [fa, fa_0, fa_1, fa_2, fa_3])))
  have m_bad_group := He.glo_ok X Gm (c0.facts (f := .glo "bad_group") (inB (by simp [fa, fa_0, fa_1, fa_2, fa_3])))
  have m_are_calls := He.glo_ok X Gm (c0.facts (f := .glo "are_calls") (inB (by simp [fa, fa_0, fa_1, fa_2, fa_3])))
  have m_need_calls := He.glo_ok X Gm (c0.facts (f := .glo "need_calls") (inB (by simp [fa, fa_0, fa_1, fa_2, fa_3])))
  have m_are_prices := He.glo_ok X Gm (c0.facts (f := .glo "are_prices") (inB (by simp [fa, fa_0, fa_1, fa_2, fa_3])))
  have m_need_prices := He.glo_ok X Gm (c0.facts (f := .glo "need_prices") (inB (by simp [fa, fa_0, fa_1, fa_2, fa_3])))
  have m_is_line := He.glo_ok X Gm (c0.facts (f := .glo "is_line") (inB (by simp [fa, fa_0, fa_1, fa_2, fa_3])))
  have m_bad_line := He.glo_ok X Gm (c0.facts (f := .glo "bad_line") (inB (by simp [fa, fa_0, fa_1, fa_2, fa_3])))
  have m_bad_room := He.glo_ok X Gm (c0.facts (f := .glo "bad_room") (inB (by simp [fa, fa_0, fa_1, fa_2, fa_3])))
  have m_is_day := He.glo_ok X Gm (c0.facts (f := .glo "is_day") (inB (by simp [fa, fa_0, fa_1, fa_2, fa_3])))
  have m_are_few := He.glo_ok X Gm (c0.facts (f := .glo "are_few") (inB (by simp [fa, fa_0, fa_1, fa_2, fa_3])))
  have m_first_wrong := He.glo_ok X Gm (c0.facts (f := .glo "first_wrong") (inB (by simp [fa, fa_0, fa_1, fa_2, fa_3])))
  have m_need_list := He.glo_ok X Gm (c0.facts (f := .glo "need_list") (inB (by simp [fa, fa_0, fa_1, fa_2, fa_3])))
  have m_is_list := He.glo_ok X Gm (c0.facts (f := .glo "is_list") (inB (by simp [fa, fa_0, fa_1, fa_2, fa_3])))
  have m_bad_among := He.glo_ok X Gm (c0.facts (f := .glo "bad_among") (inB (by simp [fa, fa_0, fa_1, fa_2, fa_3])))
  have m_need_lists := He.glo_ok X Gm (c0.facts (f := .glo "need_lists") (inB (by simp [fa, fa_0, fa_1, fa_2, fa_3])))
  have m_list_text := He.glo_ok X Gm (c0.facts (f := .glo "list_text") (inB (by simp [fa, fa_0, fa_1, fa_2, fa_3])))
  have m_group_in := He.glo_ok X Gm (c0.facts (f := .glo "group_in") (inB (by simp [fa, fa_0, fa_1, fa_2, fa_3])))
  have m_group_of := He.glo_ok X Gm (c0.facts (f := .glo "group_of") (inB (by simp [fa, fa_0, fa_1, fa_2, fa_3])))
  have m_price_in := He.glo_ok X Gm (c0.facts (f := .glo "price_in") (inB (by simp [fa, fa_0, fa_1, fa_2, fa_3])))
  have m_price_of := He.glo_ok X Gm (c0.facts (f := .glo "price_of") (inB (by simp [fa, fa_0, fa_1, fa_2, fa_3])))
  have m__law_told := He.glo_ok X Gm (c0.facts (f := .glo "_law_told") (inB (by simp [fa, fa_0, fa_1, fa_2, fa_3])))
  have m_law := He.glo_ok X Gm (c0.facts (f := .glo "law") (inB (by simp [fa, fa_0, fa_1, fa_2, fa_3])))
  have bn__law_draw : L2.Binds K fd__law_draw p__law_draw [] := F__law_draw.bindsN fun _ _ _ _ _ _ us hl => match us, hl with | [_, _], _ => rfl
  have bn__law_mixed : L2.Binds K fd__law_mixed p__law_mixed [] := F__law_mixed.bindsN fun _ _ _ _ _ _ us hl => match us, hl with | [_, _], _ => rfl
  have bn__law_digit : L2.Binds K fd__law_digit p__law_digit [] := F__law_digit.bindsN fun _ _ _ _ _ _ us hl => match us, hl with | [_, _], _ => rfl
  have bn__law_kinds : L2.Binds K fd__law_kinds p__law_kinds [] := F__law_kinds.bindsN fun _ _ _ _ _ _ us hl => match us, hl with | [_], _ => rfl
  have bn__law_by_hand : L2.Binds K fd__law_by_hand p__law_by_hand [] := F__law_by_hand.bindsN fun _ _ _ _ _ _ us hl => match us, hl with | [_], _ => rfl
  have bn_words_of : L2.Binds K fd_words_of p_words_of [] := F_words_of.bindsN fun _ _ _ _ _ _ us hl => match us, hl with | [_], _ => rfl
  have bn_ListReader_words_at : L2.Binds K fd_ListReader_words_at p_ListReader_words_at [] := F_ListReader_words_at.bindsN fun _ _ _ _ _ _ us hl => match us, hl with | [_, _], _ => rfl
  have bn_number_of : L2.Binds K fd_number_of p_number_of [] := F_number_of.bindsN fun _ _ _ _ _ _ us hl => match us, hl with | [_], _ => rfl
  have bn_is_whole : L2.Binds K fd_is_whole p_is_whole [] := F_is_whole.bindsN fun _ _ _ _ _ _ us hl => match us, hl with | [_], _ => rfl
  have bn_is_among : L2.Binds K fd_is_among p_is_among [] := F_is_among.bindsN fun _ _ _ _ _ _ us hl => match us, hl with | [_, _, _], _ => rfl
  have bn_is_name : L2.Binds K fd_is_name p_is_name [] := F_is_name.bindsN fun _ _ _ _ _ _ us hl => match us, hl with | [_], _ => rfl
  have bn_ListReader_read_day : L2.Binds K fd_ListReader_read_day p_ListReader_read_day [] := F_ListReader_read_day.bindsN fun _ _ _ _ _ _ us hl => match us, hl with | [_], _ => rfl
  have bn_ListReader___init__ : L2.Binds K fd_ListReader___init__ p_ListReader___init__ [] := F_ListReader___init__.bindsN fun _ _ _ _ _ _ us hl => match us, hl with | [_, _], _ => rfl
  have bn_ListReader_may_stand : L2.Binds K fd_ListReader_may_stand p_ListReader_may_stand [] := F_ListReader_may_stand.bindsN fun _ _ _ _ _ _ us hl => match us, hl with | [_, _, _], _ => rfl
  have bn_ListReader_read_line : L2.Binds K fd_ListReader_read_line p_ListReader_read_line [] := F_ListReader_read_line.bindsN fun _ _ _ _ _ _ us hl => match us, hl with | [_, _], _ => rfl
  have bn_read_list : L2.Binds K fd_read_list p_read_list [] := F_read_list.bindsN fun _ _ _ _ _ _ us hl => match us, hl with | [_], _ => rfl
  have bn_is_group : L2.Binds K fd_is_group p_is_group [] := F_is_group.bindsN fun _ _ _ _ _ _ us hl => match us, hl with | [_], _ => rfl
  have bn_bad_group : L2.Binds K fd_bad_group p_bad_group [] := F_bad_group.bindsN fun _ _ _ _ _ _ us hl => match us, hl with | [_], _ => rfl
  have bn_are_calls : L2.Binds K fd_are_calls p_are_calls [] := F_are_calls.bindsN fun _ _ _ _ _ _ us hl => match us, hl with | [_], _ => rfl
  have bn_need_calls : L2.Binds K fd_need_calls p_need_calls [] := F_need_calls.bindsN fun _ _ _ _ _ _ us hl => match us, hl with | [_], _ => rfl
  have bn_are_prices : L2.Binds K fd_are_prices p_are_prices [] := F_are_prices.bindsN fun _ _ _ _ _ _ us hl => match us, hl with | [_], _ => rfl
  have bn_need_prices : L2.Binds K fd_need_prices p_need_prices [] := F_need_prices.bindsN fun _ _ _ _ _ _ us hl => match us, hl with | [_], _ => rfl
  have bn_is_line : L2.Binds K fd_is_line p_is_line [] := F_is_line.bindsN fun _ _ _ _ _ _ us hl => match us, hl with | [_], _ => rfl
  have bn_bad_line : L2.Binds K fd_bad_line p_bad_line [] := F_bad_line.bindsN fun _ _ _ _ _ _ us hl => match us, hl with | [_], _ => rfl
  have bn_bad_room : L2.Binds K fd_bad_room p_bad_room [] := F_bad_room.bindsN fun _ _ _ _ _ _ us hl => match us, hl with | [_, _], _ => rfl
  have bn_is_day : L2.Binds K fd_is_day p_is_day [] := F_is_day.bindsN fun _ _ _ _ _ _ us hl => match us, hl with | [_], _ => rfl
  have bn_are_few : L2.Binds K fd_are_few p_are_few [] := F_are_few.bindsN fun _ _ _ _ _ _ us hl => match us, hl with | [_, _], _ => rfl
  have bn_first_wrong : L2.Binds K fd_first_wrong p_first_wrong [] := F_first_wrong.bindsN fun _ _ _ _ _ _ us hl => match us, hl with | [_], _ => rfl
  have bn_need_list : L2.Binds K fd_need_list p_need_list [] := F_need_list.bindsN fun _ _ _ _ _ _ us hl => match us, hl with | [_], _ => rfl
  have bn_is_list : L2.Binds K fd_is_list p_is_list [] := F_is_list.bindsN fun _ _ _ _ _ _ us hl => match us, hl with | [_], _ => rfl
  have bn_bad_among : L2.Binds K fd_bad_among p_bad_among [] := F_bad_among.bindsN fun _ _ _ _ _ _ us hl => match us, hl with | [_], _ => rfl
  have bn_need_lists : L2.Binds K fd_need_lists p_need_lists [] := F_need_lists.bindsN fun _ _ _ _ _ _ us hl => match us, hl with | [_], _ => rfl
  have bn_list_text : L2.Binds K fd_list_text p_list_text [] := F_list_text.bindsN fun _ _ _ _ _ _ us hl => match us, hl with | [_], _ => rfl
  have bn_group_in : L2.Binds K fd_group_in p_group_in [] := F_group_in.bindsN fun _ _ _ _ _ _ us hl => match us, hl with | [_, _], _ => rfl
  have bn_group_of : L2.Binds K fd_group_of p_group_of [] := F_group_of.bindsN fun _ _ _ _ _ _ us hl => match us, hl with | [_, _], _ => rfl
  have bn_price_in : L2.Binds K fd_price_in p_price_in [] := F_price_in.bindsN fun _ _ _ _ _ _ us hl => match us, hl with | [_, _], _ => rfl
  have bn_price_of : L2.Binds K fd_price_of p_price_of [] := F_price_of.bindsN fun _ _ _ _ _ _ us hl => match us, hl with | [_, _], _ => rfl
  have bn__law_told : L2.Binds K fd__law_told p__law_told [] := F__law_told.bindsN fun _ _ _ _ _ _ us hl => match us, hl with | [_, _], _ => rfl
  have bn_law : L2.Binds K fd_law p_law [] := F_law.bindsN fun _ _ _ _ _ _ us hl => match us, hl with | [_], _ => rfl
  have e := hfa.symm.trans m_law
  cases e
  have b := FunD.bindsA (ps := p_law) F_law fun _ _ _ _ _ _ us hl => match us, hl with | [_], _ => rfl
  refine ⟨fd_law, fun s v => b s [v] rfl, fun base _ _ => ?_⟩
  have nmX : ∀ c ∈ xt.names, mg c = some (.ref (He.ga K c)) := by
    intro c hc
    simp only [xt, List.mem_cons, List.mem_nil_iff, or_false] at hc
    rcases hc with rfl | rfl | rfl | rfl | rfl | rfl | rfl | rfl | rfl | rfl | rfl | rfl | rfl | rfl
    · exact He.glo_ok X Gm (c0.facts (f := .glo "ListError") (inB (by simp [fa, fa_0, fa_1, fa_2, fa_3])))
    · exact He.glo_ok X Gm (c0.facts (f := .glo "BadRow") (inB (by simp [fa, fa_0, fa_1, fa_2, fa_3])))
    · exact He.glo_ok X Gm (c0.facts (f := .glo "BadCalls") (inB (by simp [fa, fa_0, fa_1, fa_2, fa_3])))
    · exact He.glo_ok X Gm (c0.facts (f := .glo "BadPrices") (inB (by simp [fa, fa_0, fa_1, fa_2, fa_3])))
    · exact He.glo_ok X Gm (c0.facts (f := .glo "BadList") (inB (by simp [fa, fa_0, fa_1, fa_2, fa_3])))
    · exact He.glo_ok X Gm (c0.facts (f := .glo "BadWays") (inB (by simp [fa, fa_0, fa_1, fa_2, fa_3])))
    · exact He.glo_ok X Gm (c0.facts (f := .glo "BadSet") (inB (by simp [fa, fa_0, fa_1, fa_2, fa_3])))
    · exact He.glo_ok X Gm (c0.facts (f := .glo "BadPaper") (inB (by simp [fa, fa_0, fa_1, fa_2, fa_3])))
    · exact He.glo_ok X Gm (c0.facts (f := .glo "Twice") (inB (by simp [fa, fa_0, fa_1, fa_2, fa_3])))
    · exact He.glo_ok X Gm (c0.facts (f := .glo "OutOfPlace") (inB (by simp [fa, fa_0, fa_1, fa_2, fa_3])))
    · exact He.glo_ok X Gm (c0.facts (f := .glo "TooGreat") (inB (by simp [fa, fa_0, fa_1, fa_2, fa_3])))
    · exact He.glo_ok X Gm (c0.facts (f := .glo "Nothing") (inB (by simp [fa, fa_0, fa_1, fa_2, fa_3])))
    · exact He.glo_ok X Gm (c0.facts (f := .glo "HAPPENINGS") (inB (by simp [fa, fa_0, fa_1, fa_2, fa_3])))
    · exact He.glo_ok X Gm (c0.facts (f := .glo "STATES") (inB (by simp [fa, fa_0, fa_1, fa_2, fa_3])))
  simp only [exF, Bool.and_eq_true] at hxF
  obtain ⟨hxt, hxr⟩ := hxF
  obtain ⟨hxb_ListError, hxr⟩ := hxr
  obtain ⟨fd_BadRow___init__, F_BadRow___init__⟩ := c0.def_ 0 (d := d_BadRow___init__) rfl
  have bn_BadRow___init__ : L2.Binds K fd_BadRow___init__ n_BadRow___init__ [] := F_BadRow___init__.bindsN fun _ _ _ _ _ _ us hl => match us, hl with | [_, _, _], _ => rfl
  obtain ⟨fd_BadCalls___init__, F_BadCalls___init__⟩ := c0.def_ 1 (d := d_BadCalls___init__) rfl
  have bn_BadCalls___init__ : L2.Binds K fd_BadCalls___init__ n_BadCalls___init__ [] := F_BadCalls___init__.bindsN fun _ _ _ _ _ _ us hl => match us, hl with | [_, _], _ => rfl
  obtain ⟨fd_BadPrices___init__, F_BadPrices___init__⟩ := c0.def_ 2 (d := d_BadPrices___init__) rfl
  have bn_BadPrices___init__ : L2.Binds K fd_BadPrices___init__ n_BadPrices___init__ [] := F_BadPrices___init__.bindsN fun _ _ _ _ _ _ us hl => match us, hl with | [_, _], _ => rfl
  obtain ⟨fd_BadList___init__, F_BadList___init__⟩ := c0.def_ 3 (d := d_BadList___init__) rfl
  have bn_BadList___init__ : L2.Binds K fd_BadList___init__ n_BadList___init__ [] := F_BadList___init__.bindsN fun _ _ _ _ _ _ us hl => match us, hl with | [_, _, _], _ => rfl
  obtain ⟨fd_BadWays___init__, F_BadWays___init__⟩ := c0.def_ 4 (d := d_BadWays___init__) rfl
  have bn_BadWays___init__ : L2.Binds K fd_BadWays___init__ n_BadWays___init__ [] := F_BadWays___init__.bindsN fun _ _ _ _ _ _ us hl => match us, hl with | [_, _], _ => rfl
  obtain ⟨fd_BadSet___init__, F_BadSet___init__⟩ := c0.def_ 5 (d := d_BadSet___init__) rfl
  have bn_BadSet___init__ : L2.Binds K fd_BadSet___init__ n_BadSet___init__ [] := F_BadSet___init__.bindsN fun _ _ _ _ _ _ us hl => match us, hl with | [_, _], _ => rfl
  obtain ⟨fd_BadPaper___init__, F_BadPaper___init__⟩ := c0.def_ 6 (d := d_BadPaper___init__) rfl
  have bn_BadPaper___init__ : L2.Binds K fd_BadPaper___init__ n_BadPaper___init__ [] := F_BadPaper___init__.bindsN fun _ _ _ _ _ _ us hl => match us, hl with | [_, _], _ => rfl
  have says : xt.Says P w K mg base := by
    refine Ev.XT.says hxt (by decide +kernel) nmX (fun _ => He.free_ok X Gm (c0.facts (f := .free "ValueError") (inB (by simp [fa, fa_0, fa_1, fa_2, fa_3])))) fun c f fs hm => ?_
    have hm0 := hm
    simp only [xt, List.mem_cons, List.mem_nil_iff, or_false, Prod.mk.injEq] at hm
    rcases hm with ⟨rfl, rfl, rfl⟩ | ⟨rfl, rfl, rfl⟩ | ⟨rfl, rfl, rfl⟩ | ⟨rfl, rfl, rfl⟩ | ⟨rfl, rfl, rfl⟩ | ⟨rfl, rfl, rfl⟩ | ⟨rfl, rfl, rfl⟩
    · exact Ev.ini_fn (bs := "ListError") (self := "self") (p := "row") (ps := ["word"]) F_BadRow___init__ hxt hm0 hxb_ListError (nmX _ (by simp [xt])) sc_BadRow___init__ (by decide +kernel) (by decide) (by decide +kernel) (by decide +kernel) (by decide) rfl bn_BadRow___init__
    · exact Ev.ini_fn (bs := "ListError") (self := "self") (p := "number") (ps := []) F_BadCalls___init__ hxt hm0 hxb_ListError (nmX _ (by simp [xt])) sc_BadCalls___init__ (by decide +kernel) (by decide) (by decide +kernel) (by decide +kernel) (by decide) rfl bn_BadCalls___init__
    · exact Ev.ini_fn (bs := "ListError") (self := "self") (p := "number") (ps := []) F_BadPrices___init__ hxt hm0 hxb_ListError (nmX _ (by simp [xt])) sc_BadPrices___init__ (by decide +kernel) (by decide) (by decide +kernel) (by decide +kernel) (by decide) rfl bn_BadPrices___init__
    · exact Ev.ini_fn (bs := "ListError") (self := "self") (p := "part") (ps := ["number"]) F_BadList___init__ hxt hm0 hxb_ListError (nmX _ (by simp [xt])) sc_BadList___init__ (by decide +kernel) (by decide) (by decide +kernel) (by decide +kernel) (by decide) rfl bn_BadList___init__
    · exact Ev.ini_fn (bs := "ListError") (self := "self") (p := "number") (ps := []) F_BadWays___init__ hxt hm0 hxb_ListError (nmX _ (by simp [xt])) sc_BadWays___init__ (by decide +kernel) (by decide) (by decide +kernel) (by decide +kernel) (by decide) rfl bn_BadWays___init__
    · exact Ev.ini_fn (bs := "ListError") (self := "self") (p := "number") (ps := []) F_BadSet___init__ hxt hm0 hxb_ListError (nmX _ (by simp [xt])) sc_BadSet___init__ (by decide +kernel) (by decide) (by decide +kernel) (by decide +kernel) (by decide) rfl bn_BadSet___init__
    · exact Ev.ini_fn (bs := "ListError") (self := "self") (p := "place") (ps := []) F_BadPaper___init__ hxt hm0 hxb_ListError (nmX _ (by simp [xt])) sc_BadPaper___init__ (by decide +kernel) (by decide) (by decide +kernel) (by decide +kernel) (by decide) rfl bn_BadPaper___init__
  have g0 : Ev.Glob G0 (Ev.isXv K) P w K mg base 2 := by
    refine Ev.glob_start says (fun x d h => ?_) (fun x hx => He.free_ok X Gm (c0.facts (f := .free x) (List.mem_append_right _ (List.mem_map_of_mem hx))))
    unfold con0 at h
    try dsimp only at h
    by_cases e_LETTERS : x = "LETTERS"
    · rw [if_pos e_LETTERS] at h; cases h; subst e_LETTERS
      obtain ⟨t, ht⟩ := He.str_ok X Gm (c0.facts (f := .str "LETTERS" "abcdefghijklmnopqrstuvwxyz") (inB (by simp [fa, fa_0, fa_1, fa_2, fa_3])))
      exact ⟨.str "abcdefghijklmnopqrstuvwxyz", _, ht, ⟨t, rfl⟩, fun _ => .str _⟩
    rw [if_neg e_LETTERS] at h
    by_cases e_FIGURES : x = "FIGURES"
    · rw [if_pos e_FIGURES] at h; cases h; subst e_FIGURES
      obtain ⟨t, ht⟩ := He.str_ok X Gm (c0.facts (f := .str "FIGURES" "0123456789") (inB (by simp [fa, fa_0, fa_1, fa_2, fa_3])))
      exact ⟨.str "0123456789", _, ht, ⟨t, rfl⟩, fun _ => .str _⟩
    rw [if_neg e_FIGURES] at h
    by_cases e_MOST_LETTERS : x = "MOST_LETTERS"
    · rw [if_pos e_MOST_LETTERS] at h; cases h; subst e_MOST_LETTERS
      obtain ⟨t, ht⟩ := He.int_ok X Gm (c0.facts (f := .int "MOST_LETTERS" 8) (inB (by simp [fa, fa_0, fa_1, fa_2, fa_3])))
      exact ⟨.int 8, _, ht, ⟨t, rfl⟩, fun _ => .int _⟩
    rw [if_neg e_MOST_LETTERS] at h
    by_cases e_MOST_FIGURES : x = "MOST_FIGURES"
    · rw [if_pos e_MOST_FIGURES] at h; cases h; subst e_MOST_FIGURES
      obtain ⟨t, ht⟩ := He.int_ok X Gm (c0.facts (f := .int "MOST_FIGURES" 5) (inB (by simp [fa, fa_0, fa_1, fa_2, fa_3])))
      exact ⟨.int 5, _, ht, ⟨t, rfl⟩, fun _ => .int _⟩
    rw [if_neg e_MOST_FIGURES] at h
    by_cases e_MOST_GROUPS : x = "MOST_GROUPS"
    · rw [if_pos e_MOST_GROUPS] at h; cases h; subst e_MOST_GROUPS
      obtain ⟨t, ht⟩ := He.int_ok X Gm (c0.facts (f := .int "MOST_GROUPS" 6) (inB (by simp [fa, fa_0, fa_1, fa_2, fa_3])))
      exact ⟨.int 6, _, ht, ⟨t, rfl⟩, fun _ => .int _⟩
    rw [if_neg e_MOST_GROUPS] at h
    by_cases e_MOST_NAMES : x = "MOST_NAMES"
    · rw [if_pos e_MOST_NAMES] at h; cases h; subst e_MOST_NAMES
      obtain ⟨t, ht⟩ := He.int_ok X Gm (c0.facts (f := .int "MOST_NAMES" 4) (inB (by simp [fa, fa_0, fa_1, fa_2, fa_3])))
      exact ⟨.int 4, _, ht, ⟨t, rfl⟩, fun _ => .int _⟩
    rw [if_neg e_MOST_NAMES] at h
    by_cases e_MOST_DAY : x = "MOST_DAY"
    · rw [if_pos e_MOST_DAY] at h; cases h; subst e_MOST_DAY
      obtain ⟨t, ht⟩ := He.int_ok X Gm (c0.facts (f := .int "MOST_DAY" 99999) (inB (by simp [fa, fa_0, fa_1, fa_2, fa_3])))
      exact ⟨.int 99999, _, ht, ⟨t, rfl⟩, fun _ => .int _⟩
    rw [if_neg e_MOST_DAY] at h
    by_cases e_MOST_LINES : x = "MOST_LINES"
    · rw [if_pos e_MOST_LINES] at h; cases h; subst e_MOST_LINES
      obtain ⟨t, ht⟩ := He.int_ok X Gm (c0.facts (f := .int "MOST_LINES" 10) (inB (by simp [fa, fa_0, fa_1, fa_2, fa_3])))
      exact ⟨.int 10, _, ht, ⟨t, rfl⟩, fun _ => .int _⟩
    rw [if_neg e_MOST_LINES] at h
    by_cases e_MOST_LOST : x = "MOST_LOST"
    · rw [if_pos e_MOST_LOST] at h; cases h; subst e_MOST_LOST
      obtain ⟨t, ht⟩ := He.int_ok X Gm (c0.facts (f := .int "MOST_LOST" 4) (inB (by simp [fa, fa_0, fa_1, fa_2, fa_3])))
      exact ⟨.int 4, _, ht, ⟨t, rfl⟩, fun _ => .int _⟩
    rw [if_neg e_MOST_LOST] at h
    by_cases e_MOST_LISTS : x = "MOST_LISTS"
    · rw [if_pos e_MOST_LISTS] at h; cases h; subst e_MOST_LISTS
      obtain ⟨t, ht⟩ := He.int_ok X Gm (c0.facts (f := .int "MOST_LISTS" 6) (inB (by simp [fa, fa_0, fa_1, fa_2, fa_3])))
      exact ⟨.int 6, _, ht, ⟨t, rfl⟩, fun _ => .int _⟩
    rw [if_neg e_MOST_LISTS] at h
    by_cases e_MOST_LIKE : x = "MOST_LIKE"
    · rw [if_pos e_MOST_LIKE] at h; cases h; subst e_MOST_LIKE
      obtain ⟨t, ht⟩ := He.int_ok X Gm (c0.facts (f := .int "MOST_LIKE" 9) (inB (by simp [fa, fa_0, fa_1, fa_2, fa_3])))
      exact ⟨.int 9, _, ht, ⟨t, rfl⟩, fun _ => .int _⟩
    rw [if_neg e_MOST_LIKE] at h
    try simp only [Bool.and_eq_true] at hxr
    by_cases e_HAPPENINGS : x = "HAPPENINGS"
    · rw [if_pos e_HAPPENINGS] at h; cases h; subst e_HAPPENINGS
      exact ⟨.ref (He.ga K "HAPPENINGS"), _, He.glo_ok X Gm (c0.facts (f := .glo "HAPPENINGS") (inB (by simp [fa, fa_0, fa_1, fa_2, fa_3]))), rfl, fun Hd => .tup (He.tupB_ok (hxr.1) Hd) (.cons (.str _) (.cons (.str _) (.cons (.str _) (.cons (.str _) (.cons (.str _) (.cons (.str _) (.cons (.str _) (.cons (.str _) .nil))))))))⟩
    rw [if_neg e_HAPPENINGS] at h
    by_cases e_STATES : x = "STATES"
    · rw [if_pos e_STATES] at h; cases h; subst e_STATES
      exact ⟨.ref (He.ga K "STATES"), _, He.glo_ok X Gm (c0.facts (f := .glo "STATES") (inB (by simp [fa, fa_0, fa_1, fa_2, fa_3]))), rfl, fun Hd => .tup (He.tupB_ok (hxr.2) Hd) (.cons (.str _) (.cons (.str _) .nil))⟩
    rw [if_neg e_STATES] at h
    cases h
  have g1 := g0.addS (x := "_law_draw") (fun _ _ h => Ev.runS_len h) (Ev.fnS g0 F__law_draw sc__law_draw c__law_draw) m__law_draw F__law_draw.kp bn__law_draw
  have g2 := g1.addP (x := "_law_mixed") (fun _ _ h => Ev.runP_len h) (Ev.fnP g1 F__law_mixed sc__law_mixed c__law_mixed) m__law_mixed F__law_mixed.kp bn__law_mixed
  have g3 := g2.addS (x := "_law_digit") (fun _ _ h => Ev.runS_len h) (Ev.fnS g2 F__law_digit sc__law_digit c__law_digit) m__law_digit F__law_digit.kp bn__law_digit
  have g4 := g3.addP (x := "_law_kinds") (fun _ _ h => Ev.runP_len h) (Ev.fnP g3 F__law_kinds sc__law_kinds c__law_kinds) m__law_kinds F__law_kinds.kp bn__law_kinds
  have g5 := g4.addP (x := "_law_by_hand") (fun _ _ h => Ev.runP_len h) (Ev.fnP g4 F__law_by_hand sc__law_by_hand c__law_by_hand) m__law_by_hand F__law_by_hand.kp bn__law_by_hand
  have g6 := g5.addP (x := "words_of") (fun _ _ h => Ev.runP_len h) (Ev.fnP g5 F_words_of sc_words_of c_words_of) m_words_of F_words_of.kp bn_words_of
  have g7 := g6.addM (c := "ListReader") (m := "words_at") (fun _ _ h => Ev.runS_len h) (Ev.fnS g6 F_ListReader_words_at sc_ListReader_words_at c_ListReader_words_at) (says.clc "ListReader" (by decide +kernel)).1 (says.clm "ListReader" "words_at" (by decide +kernel)) bn_ListReader_words_at
  have g8 := g7.addP (x := "number_of") (fun _ _ h => Ev.runP_len h) (Ev.fnP g7 F_number_of sc_number_of c_number_of) m_number_of F_number_of.kp bn_number_of
  have g9 := g8.addP (x := "is_whole") (fun _ _ h => Ev.runP_len h) (Ev.fnP g8 F_is_whole sc_is_whole c_is_whole) m_is_whole F_is_whole.kp bn_is_whole
  have g10 := g9.addP (x := "is_among") (fun _ _ h => Ev.runP_len h) (Ev.fnP g9 F_is_among sc_is_among c_is_among) m_is_among F_is_among.kp bn_is_among
  have g11 := g10.addP (x := "is_name") (fun _ _ h => Ev.runP_len h) (Ev.fnP g10 F_is_name sc_is_name c_is_name) m_is_name F_is_name.kp bn_is_name
  have g12 := g11.addM (c := "ListReader") (m := "read_day") (fun _ _ h => Ev.runS_len h) (Ev.fnS g11 F_ListReader_read_day sc_ListReader_read_day c_ListReader_read_day) (says.clc "ListReader" (by decide +kernel)).1 (says.clm "ListReader" "read_day" (by decide +kernel)) bn_ListReader_read_day
  have g13 := g12.addI (x := "ListReader") (fun _ _ h => Ev.runS_len h) (Ev.fnS g12 F_ListReader___init__ sc_ListReader___init__ c_ListReader___init__) (says.clc "ListReader" (by decide +kernel)).2 (He.glo_ok X Gm (c0.facts (f := .glo "ListReader") (inB (by simp [fa, fa_0, fa_1, fa_2, fa_3])))) bn_ListReader___init__
  have g14 := g13.addM (c := "ListReader") (m := "may_stand") (fun _ _ h => Ev.runS_len h) (Ev.fnS g13 F_ListReader_may_stand sc_ListReader_may_stand c_ListReader_may_stand) (says.clc "ListReader" (by decide +kernel)).1 (says.clm "ListReader" "may_stand" (by decide +kernel)) bn_ListReader_may_stand
  have g15 := g14.addM (c := "ListReader") (m := "read_line") (fun _ _ h => Ev.runS_len h) (Ev.fnS g14 F_ListReader_read_line sc_ListReader_read_line c_ListReader_read_line) (says.clc "ListReader" (by decide +kernel)).1 (says.clm "ListReader" "read_line" (by decide +kernel)) bn_ListReader_read_line
  have g16 := g15.addP (x := "read_list") (fun _ _ h => Ev.runP_len h) (Ev.fnP g15 F_read_list sc_read_list c_read_list) m_read_list F_read_list.kp bn_read_list
  have g17 := g16.addP (x := "is_group") (fun _ _ h => Ev.runP_len h) (Ev.fnP g16 F_is_group sc_is_group c_is_group) m_is_group F_is_group.kp bn_is_group
  have g18 := g17.addP (x := "bad_group") (fun _ _ h => Ev.runP_len h) (Ev.fnP g17 F_bad_group sc_bad_group c_bad_group) m_bad_group F_bad_group.kp bn_bad_group
  have g19 := g18.addP (x := "are_calls") (fun _ _ h => Ev.runP_len h) (Ev.fnP g18 F_are_calls sc_are_calls c_are_calls) m_are_calls F_are_calls.kp bn_are_calls
  have g20 := g19.addP (x := "need_calls") (fun _ _ h => Ev.runP_len h) (Ev.fnP g19 F_need_calls sc_need_calls c_need_calls) m_need_calls F_need_calls.kp bn_need_calls
  have g21 := g20.addP (x := "are_prices") (fun _ _ h => Ev.runP_len h) (Ev.fnP g20 F_are_prices sc_are_prices c_are_prices) m_are_prices F_are_prices.kp bn_are_prices
  have g22 := g21.addP (x := "need_prices") (fun _ _ h => Ev.runP_len h) (Ev.fnP g21 F_need_prices sc_need_prices c_need_prices) m_need_prices F_need_prices.kp bn_need_prices
  have g23 := g22.addP (x := "is_line") (fun _ _ h => Ev.runP_len h) (Ev.fnP g22 F_is_line sc_is_line c_is_line) m_is_line F_is_line.kp bn_is_line
  have g24 := g23.addP (x := "bad_line") (fun _ _ h => Ev.runP_len h) (Ev.fnP g23 F_bad_line sc_bad_line c_bad_line) m_bad_line F_bad_line.kp bn_bad_line
  have g25 := g24.addP (x := "bad_room") (fun _ _ h => Ev.runP_len h) (Ev.fnP g24 F_bad_room sc_bad_room c_bad_room) m_bad_room F_bad_room.kp bn_bad_room
  have g26 := g25.addP (x := "is_day") (fun _ _ h => Ev.runP_len h) (Ev.fnP g25 F_is_day sc_is_day c_is_day) m_is_day F_is_day.kp bn_is_day
  have g27 := g26.addP (x := "are_few") (fun _ _ h => Ev.runP_len h) (Ev.fnP g26 F_are_few sc_are_few c_are_few) m_are_few F_are_few.kp bn_are_few
  have g28 := g27.addP (x := "first_wrong") (fun _ _ h => Ev.runP_len h) (Ev.fnP g27 F_first_wrong sc_first_wrong c_first_wrong) m_first_wrong F_first_wrong.kp bn_first_wrong
  have g29 := g28.addP (x := "need_list") (fun _ _ h => Ev.runP_len h) (Ev.fnP g28 F_need_list sc_need_list c_need_list) m_need_list F_need_list.kp bn_need_list
  have g30 := g29.addP (x := "is_list") (fun _ _ h => Ev.runP_len h) (Ev.fnP g29 F_is_list sc_is_list c_is_list) m_is_list F_is_list.kp bn_is_list
  have g31 := g30.addP (x := "bad_among") (fun _ _ h => Ev.runP_len h) (Ev.fnP g30 F_bad_among sc_bad_among c_bad_among) m_bad_among F_bad_among.kp bn_bad_among
  have g32 := g31.addP (x := "need_lists") (fun _ _ h => Ev.runP_len h) (Ev.fnP g31 F_need_lists sc_need_lists c_need_lists) m_need_lists F_need_lists.kp bn_need_lists
  have g33 := g32.addP (x := "list_text") (fun _ _ h => Ev.runP_len h) (Ev.fnP g32 F_list_text sc_list_text c_list_text) m_list_text F_list_text.kp bn_list_text
  have g34 := g33.addP (x := "group_in") (fun _ _ h => Ev.runP_len h) (Ev.fnP g33 F_group_in sc_group_in c_group_in) m_group_in F_group_in.kp bn_group_in
  have g35 := g34.addP (x := "group_of") (fun _ _ h => Ev.runP_len h) (Ev.fnP g34 F_group_of sc_group_of c_group_of) m_group_of F_group_of.kp bn_group_of
  have g36 := g35.addP (x := "price_in") (fun _ _ h => Ev.runP_len h) (Ev.fnP g35 F_price_in sc_price_in c_price_in) m_price_in F_price_in.kp bn_price_in
  have g37 := g36.addP (x := "price_of") (fun _ _ h => Ev.runP_len h) (Ev.fnP g36 F_price_of sc_price_of c_price_of) m_price_of F_price_of.kp bn_price_of
  have g38 := g37.addP (x := "_law_told") (fun _ _ h => Ev.runP_len h) (Ev.fnP g37 F__law_told sc__law_told c__law_told) m__law_told F__law_told.kp bn__law_told
  exact Ev.fnP g38 F_law sc_law c_law
end HX
set_option linter.all false
set_option maxRecDepth 100000
set_option maxHeartbeats 2000000
namespace HX
open PySem Ev
def hd : Ss → S
  | .cons s _ => s
  | .nil => .pass
def tl : Ss → Ss
  | .cons _ r => r
  | .nil => .nil
def nxRo : O → Ro
  | .nx ro _ => ro
  | _ => []
theorem exs_step {G : Gt} {b : Ss} {R R' : Ro} {st st' : Store} (hb : b = .cons (hd b) (tl b)) (h : ex G (hd b) R st = .nx R' st') : exs G b R st = exs G (tl b) R' st' := by
  conv => lhs; rw [hb]
  exact exs_nx h
/-! ### by hand -/
def B0 := b__law_by_hand
def B1 := tl B0
def B2 := tl B1
def B3 := tl B2
def B4 := tl B3
def B5 := tl B4
def B6 := tl B5
def R0 (n : Int) : Ro := ini 7 ([D.int n].map W.d)
def R1 (n : Int) : Ro := nxRo (ex G4 (hd B0) (R0 n) [])
def R2 (n : Int) : Ro := nxRo (ex G4 (hd B1) (R1 n) [])
def R4 (n : Int) : Ro := nxRo (ex G4 (hd B3) (R2 n) [])
def R5 (n : Int) : Ro := nxRo (ex G4 (hd B4) (R4 n) [])
theorem by_hand_ok (n : Int) : f__law_by_hand [.int n] = some (.ok (.bl true)) := by
  have e0 : ex G4 (hd B0) (R0 n) [] = .nx (R1 n) [] := by kernel_rfl
  have e1 : ex G4 (hd B1) (R1 n) [] = .nx (R2 n) [] := by kernel_rfl
  have c1 : ev G4 (.cmp .NotEq (.var 2) (.lst (.cons (.var 0) (.cons (.int 3) (.cons (.var 0) (.cons (.var 0) (.cons (.str "lines") (.cons (.var 0) (.cons (.var 0) .nil))))))))) (R2 n) [] = .ok (.d (.bl false)) [] :=
    ev_neSelf (x := .lst [.int n, .int 3, .int n, .int n, .str "lines", .int n, .int n]) (by kernel_rfl) (by kernel_rfl) (by rfl) (Nat.le_of_ble_eq_true (by kernel_rfl))
  have e2 : ex G4 (hd B2) (R2 n) [] = .nx (R2 n) [] := by
    rw [show hd B2 = .iff (.cmp .NotEq (.var 2) (.lst (.cons (.var 0) (.cons (.int 3) (.cons (.var 0) (.cons (.var 0) (.cons (.str "lines") (.cons (.var 0) (.cons (.var 0) .nil))))))))) (.cons (.ret (.bl false)) .nil) .nil from by kernel_rfl, ex_iff_b c1, if_neg (by decide), exs_nil]
  have e3 : ex G4 (hd B3) (R2 n) [] = .nx (R4 n) [] := by kernel_rfl
  have e4 : ex G4 (hd B4) (R4 n) [] = .nx (R5 n) [] := by kernel_rfl
  have c2 : ev G4 (.cmp .NotEq (.var 2) (.lst (.cons (.var 0) (.cons (.tup (.cons (.int 1) (.cons (.var 0) .nil))) (.cons .non (.cons .non (.cons .non (.cons .non (.cons .non .nil))))))))) (R5 n) [] = .ok (.d (.bl false)) [] :=
    ev_neSelf (x := .lst [.int n, .tup [.int 1, .int n], .non, .non, .non, .non, .non]) (by kernel_rfl) (by kernel_rfl) (by rfl) (Nat.le_of_ble_eq_true (by kernel_rfl))
  have c3 : ev G4 (.cmp .IsNot (.fld (.mk "BadSet" (.cons .non .nil)) "number") .non) (R5 n) [] = .ok (.d (.bl false)) [] := by kernel_rfl
  have e5 : ex G4 (hd B5) (R5 n) [] = .nx (R5 n) [] := by
    rw [show hd B5 = .iff (.or2 (.cmp .NotEq (.var 2) (.lst (.cons (.var 0) (.cons (.tup (.cons (.int 1) (.cons (.var 0) .nil))) (.cons .non (.cons .non (.cons .non (.cons .non (.cons .non .nil))))))))) (.cmp .IsNot (.fld (.mk "BadSet" (.cons .non .nil)) "number") .non)) (.cons (.ret (.bl false)) .nil) .nil from by kernel_rfl, ex_iff_b (ev_or_b c2 fun _ => c3), if_neg (by decide), exs_nil]
  have e6 : exs G4 B6 (R5 n) [] = .ret (.d (.bl true)) [] := by kernel_rfl
  show (if ([D.int n] : List D).length = 1 then outP (exs G4 B0 (R0 n) []) else none) = _
  rw [if_pos (by rfl), exs_step (by kernel_rfl) e0, show tl B0 = B1 from rfl, exs_step (by kernel_rfl) e1, show tl B1 = B2 from rfl, exs_step (by kernel_rfl) e2, show tl B2 = B3 from rfl, exs_step (by kernel_rfl) e3, show tl B3 = B4 from rfl,
    exs_step (by kernel_rfl) e4, show tl B4 = B5 from rfl, exs_step (by kernel_rfl) e5, show tl B5 = B6 from rfl, e6]
  rfl
end HX
set_option linter.all false
set_option maxRecDepth 100000
set_option maxHeartbeats 2000000
namespace HX
open PySem Ev
def due : D → D
  | .int 0 => .lst [.str "row"]
  | .int 1 => .lst [.str "calls"]
  | .int 2 => .lst [.str "prices"]
  | .int 3 => .lst [.str "list"]
  | .int 4 => .lst [.str "list"]
  | .int 5 => .lst [.str "list"]
  | .int 6 => .lst [.str "place"]
  | .int 7 => .lst [.str "place"]
  | _ => .non
def dueL : List D := [.lst [.str "row"], .lst [.str "calls"], .lst [.str "prices"], .lst [.str "list"], .lst [.str "list"], .lst [.str "list"], .lst [.str "place"], .lst [.str "place"]]
def oddL (n : Int) : List D := [.non, .int 7, .bl true, .lst [], .dic [] [], .str "", .str "A", .lst [.str "b"], .int n, .tup (List.replicate 9 (.int 1)), .tup [.str "b"]]
theorem told_0 (n : Int) : f__law_told [.int 0, .non] = some (.ok (.lst [.str "row"])) ∧ f__law_told [.int 1, .non] = some (.ok (.lst [.str "calls"])) ∧ f__law_told [.int 2, .non] = some (.ok (.lst [.str "prices"])) ∧ f__law_told [.int 3, .non] = some (.ok (.lst [.str "list"])) ∧ f__law_told [.int 4, .non] = some (.ok (.lst [.str "list"])) ∧ f__law_told [.int 5, .non] = some (.ok (.lst [.str "list"])) ∧ f__law_told [.int 6, .non] = some (.ok (.lst [.str "place"])) ∧ f__law_told [.int 7, .non] = some (.ok (.lst [.str "place"])) := by
  refine ⟨?_, ?_, ?_, ?_, ?_, ?_, ?_, ?_⟩ <;> kernel_rfl
theorem told_1 (n : Int) : f__law_told [.int 0, .int 7] = some (.ok (.lst [.str "row"])) ∧ f__law_told [.int 1, .int 7] = some (.ok (.lst [.str "calls"])) ∧ f__law_told [.int 2, .int 7] = some (.ok (.lst [.str "prices"])) ∧ f__law_told [.int 3, .int 7] = some (.ok (.lst [.str "list"])) ∧ f__law_told [.int 4, .int 7] = some (.ok (.lst [.str "list"])) ∧ f__law_told [.int 5, .int 7] = some (.ok (.lst [.str "list"])) ∧ f__law_told [.int 6, .int 7] = some (.ok (.lst [.str "place"])) ∧ f__law_told [.int 7, .int 7] = some (.ok (.lst [.str "place"])) := by
  refine ⟨?_, ?_, ?_, ?_, ?_, ?_, ?_, ?_⟩ <;> kernel_rfl
theorem told_2 (n : Int) : f__law_told [.int 0, .bl true] = some (.ok (.lst [.str "row"])) ∧ f__law_told [.int 1, .bl true] = some (.ok (.lst [.str "calls"])) ∧ f__law_told [.int 2, .bl true] = some (.ok (.lst [.str "prices"])) ∧ f__law_told [.int 3, .bl true] = some (.ok (.lst [.str "list"])) ∧ f__law_told [.int 4, .bl true] = some (.ok (.lst [.str "list"])) ∧ f__law_told [.int 5, .bl true] = some (.ok (.lst [.str "list"])) ∧ f__law_told [.int 6, .bl true] = some (.ok (.lst [.str "place"])) ∧ f__law_told [.int 7, .bl true] = some (.ok (.lst [.str "place"])) := by
  refine ⟨?_, ?_, ?_, ?_, ?_, ?_, ?_, ?_⟩ <;> kernel_rfl
theorem told_3 (n : Int) : f__law_told [.int 0, .lst []] = some (.ok (.lst [.str "row"])) ∧ f__law_told [.int 1, .lst []] = some (.ok (.lst [.str "calls"])) ∧ f__law_told [.int 2, .lst []] = some (.ok (.lst [.str "prices"])) ∧ f__law_told [.int 3, .lst []] = some (.ok (.lst [.str "list"])) ∧ f__law_told [.int 4, .lst []] = some (.ok (.lst [.str "list"])) ∧ f__law_told [.int 5, .lst []] = some (.ok (.lst [.str "list"])) ∧ f__law_told [.int 6, .lst []] = some (.ok (.lst [.str "place"])) ∧ f__law_told [.int 7, .lst []] = some (.ok (.lst [.str "place"])) := by
  refine ⟨?_, ?_, ?_, ?_, ?_, ?_, ?_, ?_⟩ <;> kernel_rfl
theorem told_4 (n : Int) : f__law_told [.int 0, .dic [] []] = some (.ok (.lst [.str "row"])) ∧ f__law_told [.int 1, .dic [] []] = some (.ok (.lst [.str "calls"])) ∧ f__law_told [.int 2, .dic [] []] = some (.ok (.lst [.str "prices"])) ∧ f__law_told [.int 3, .dic [] []] = some (.ok (.lst [.str "list"])) ∧ f__law_told [.int 4, .dic [] []] = some (.ok (.lst [.str "list"])) ∧ f__law_told [.int 5, .dic [] []] = some (.ok (.lst [.str "list"])) ∧ f__law_told [.int 6, .dic [] []] = some (.ok (.lst [.str "place"])) ∧ f__law_told [.int 7, .dic [] []] = some (.ok (.lst [.str "place"])) := by
  refine ⟨?_, ?_, ?_, ?_, ?_, ?_, ?_, ?_⟩ <;> kernel_rfl
theorem told_5 (n : Int) : f__law_told [.int 0, .str ""] = some (.ok (.lst [.str "row"])) ∧ f__law_told [.int 1, .str ""] = some (.ok (.lst [.str "calls"])) ∧ f__law_told [.int 2, .str ""] = some (.ok (.lst [.str "prices"])) ∧ f__law_told [.int 3, .str ""] = some (.ok (.lst [.str "list"])) ∧ f__law_told [.int 4, .str ""] = some (.ok (.lst [.str "list"])) ∧ f__law_told [.int 5, .str ""] = some (.ok (.lst [.str "list"])) ∧ f__law_told [.int 6, .str ""] = some (.ok (.lst [.str "place"])) ∧ f__law_told [.int 7, .str ""] = some (.ok (.lst [.str "place"])) := by
  refine ⟨?_, ?_, ?_, ?_, ?_, ?_, ?_, ?_⟩ <;> kernel_rfl
theorem told_6 (n : Int) : f__law_told [.int 0, .str "A"] = some (.ok (.lst [.str "row"])) ∧ f__law_told [.int 1, .str "A"] = some (.ok (.lst [.str "calls"])) ∧ f__law_told [.int 2, .str "A"] = some (.ok (.lst [.str "prices"])) ∧ f__law_told [.int 3, .str "A"] = some (.ok (.lst [.str "list"])) ∧ f__law_told [.int 4, .str "A"] = some (.ok (.lst [.str "list"])) ∧ f__law_told [.int 5, .str "A"] = some (.ok (.lst [.str "list"])) ∧ f__law_told [.int 6, .str "A"] = some (.ok (.lst [.str "place"])) ∧ f__law_told [.int 7, .str "A"] = some (.ok (.lst [.str "place"])) := by
  refine ⟨?_, ?_, ?_, ?_, ?_, ?_, ?_, ?_⟩ <;> kernel_rfl
theorem told_7 (n : Int) : f__law_told [.int 0, .lst [.str "b"]] = some (.ok (.lst [.str "row"])) ∧ f__law_told [.int 1, .lst [.str "b"]] = some (.ok (.lst [.str "calls"])) ∧ f__law_told [.int 2, .lst [.str "b"]] = some (.ok (.lst [.str "prices"])) ∧ f__law_told [.int 3, .lst [.str "b"]] = some (.ok (.lst [.str "list"])) ∧ f__law_told [.int 4, .lst [.str "b"]] = some (.ok (.lst [.str "list"])) ∧ f__law_told [.int 5, .lst [.str "b"]] = some (.ok (.lst [.str "list"])) ∧ f__law_told [.int 6, .lst [.str "b"]] = some (.ok (.lst [.str "place"])) ∧ f__law_told [.int 7, .lst [.str "b"]] = some (.ok (.lst [.str "place"])) := by
  refine ⟨?_, ?_, ?_, ?_, ?_, ?_, ?_, ?_⟩ <;> kernel_rfl
theorem told_8 (n : Int) : f__law_told [.int 0, .int n] = some (.ok (.lst [.str "row"])) ∧ f__law_told [.int 1, .int n] = some (.ok (.lst [.str "calls"])) ∧ f__law_told [.int 2, .int n] = some (.ok (.lst [.str "prices"])) ∧ f__law_told [.int 3, .int n] = some (.ok (.lst [.str "list"])) ∧ f__law_told [.int 4, .int n] = some (.ok (.lst [.str "list"])) ∧ f__law_told [.int 5, .int n] = some (.ok (.lst [.str "list"])) ∧ f__law_told [.int 6, .int n] = some (.ok (.lst [.str "place"])) ∧ f__law_told [.int 7, .int n] = some (.ok (.lst [.str "place"])) := by
  refine ⟨?_, ?_, ?_, ?_, ?_, ?_, ?_, ?_⟩ <;> kernel_rfl
theorem told_9 (n : Int) : f__law_told [.int 0, .tup (List.replicate 9 (.int 1))] = some (.ok (.lst [.str "row"])) ∧ f__law_told [.int 1, .tup (List.replicate 9 (.int 1))] = some (.ok (.lst [.str "calls"])) ∧ f__law_told [.int 2, .tup (List.replicate 9 (.int 1))] = some (.ok (.lst [.str "prices"])) ∧ f__law_told [.int 3, .tup (List.replicate 9 (.int 1))] = some (.ok (.lst [.str "list"])) ∧ f__law_told [.int 4, .tup (List.replicate 9 (.int 1))] = some (.ok (.lst [.str "list"])) ∧ f__law_told [.int 5, .tup (List.replicate 9 (.int 1))] = some (.ok (.lst [.str "list"])) ∧ f__law_told [.int 6, .tup (List.replicate 9 (.int 1))] = some (.ok (.lst [.str "place"])) ∧ f__law_told [.int 7, .tup (List.replicate 9 (.int 1))] = some (.ok (.lst [.str "place"])) := by
  refine ⟨?_, ?_, ?_, ?_, ?_, ?_, ?_, ?_⟩ <;> kernel_rfl
theorem told_10 (n : Int) : f__law_told [.int 0, .tup [.str "b"]] = some (.ok (.lst [.str "row"])) ∧ f__law_told [.int 1, .tup [.str "b"]] = some (.ok (.lst [.str "calls"])) ∧ f__law_told [.int 2, .tup [.str "b"]] = some (.ok (.lst [.str "prices"])) ∧ f__law_told [.int 3, .tup [.str "b"]] = some (.ok (.lst [.str "list"])) ∧ f__law_told [.int 4, .tup [.str "b"]] = some (.ok (.lst [.str "list"])) ∧ f__law_told [.int 5, .tup [.str "b"]] = some (.ok (.lst [.str "list"])) ∧ f__law_told [.int 6, .tup [.str "b"]] = some (.ok (.lst [.str "place"])) ∧ f__law_told [.int 7, .tup [.str "b"]] = some (.ok (.lst [.str "place"])) := by
  refine ⟨?_, ?_, ?_, ?_, ?_, ?_, ?_, ?_⟩ <;> kernel_rfl
theorem told_ok (n : Int) (od : D) (h : od ∈ oddL n) : ∀ y ∈ ([.int 0, .int 1, .int 2, .int 3, .int 4, .int 5, .int 6, .int 7] : List D), f__law_told [y, od] = some (.ok (due y)) := by
  have key : f__law_told [.int 0, od] = some (.ok (.lst [.str "row"])) ∧ f__law_told [.int 1, od] = some (.ok (.lst [.str "calls"])) ∧ f__law_told [.int 2, od] = some (.ok (.lst [.str "prices"])) ∧ f__law_told [.int 3, od] = some (.ok (.lst [.str "list"])) ∧ f__law_told [.int 4, od] = some (.ok (.lst [.str "list"])) ∧ f__law_told [.int 5, od] = some (.ok (.lst [.str "list"])) ∧ f__law_told [.int 6, od] = some (.ok (.lst [.str "place"])) ∧ f__law_told [.int 7, od] = some (.ok (.lst [.str "place"])) → ∀ y ∈ ([.int 0, .int 1, .int 2, .int 3, .int 4, .int 5, .int 6, .int 7] : List D), f__law_told [y, od] = some (.ok (due y)) := by
    rintro ⟨h0, h1, h2, h3, h4, h5, h6, h7⟩ y hy
    simp only [List.mem_cons, List.mem_nil_iff, or_false] at hy
    rcases hy with rfl | rfl | rfl | rfl | rfl | rfl | rfl | rfl <;> assumption
  simp only [oddL, List.mem_cons, List.mem_nil_iff, or_false] at h
  rcases h with rfl | rfl | rfl | rfl | rfl | rfl | rfl | rfl | rfl | rfl | rfl
  · exact key (told_0 n)
  · exact key (told_1 n)
  · exact key (told_2 n)
  · exact key (told_3 n)
  · exact key (told_4 n)
  · exact key (told_5 n)
  · exact key (told_6 n)
  · exact key (told_7 n)
  · exact key (told_8 n)
  · exact key (told_9 n)
  · exact key (told_10 n)
end HX
set_option linter.all false
set_option maxRecDepth 100000
set_option maxHeartbeats 2000000
namespace HX
open PySem Ev
theorem fs_draw : G38.fs "_law_draw" = some (drawF G0) := by rfl
theorem fs_digit : G38.fs "_law_digit" = some (digitF G2) := by rfl
theorem fp_mixed : G2.fp "_law_mixed" = some (mixedF G1) := by rfl
theorem fp_told : G38.fp "_law_told" = some f__law_told := by rfl
theorem fp_hand : G38.fp "_law_by_hand" = some f__law_by_hand := by rfl
theorem dg {ro : Ro} {st : Store} {n : Nat} {T : Int} (many : Int) {m : M} (h : ro[4]? = some (some (.cell n))) (he : ev G38 m ro st = .ok (.d (.int many)) st) (hd : Drw st n T) (hm2 : 0 < many ∧ many < 2 ^ 60) (hT : T < 2 ^ 50) :
    ∃ d st', ev G38 (.callS "_law_digit" (.cons (.var 4) (.cons m .nil))) ro st = .ok (.d (.int d)) st' ∧ 0 ≤ d ∧ d < many ∧ Drw st' n (T + 4) ∧ Oth n st st' :=
  ev_digit fs_digit fp_mixed h he hd hm2 hT
theorem drw_keep {st st' : Store} {n : Nat} {T : Int} (h : Drw st n T) (e : st'[n]? = st[n]?) : Drw st' n T := by
  unfold Drw at h ⊢
  rw [e]; exact h
theorem ev_odds {ro : Ro} {st : Store} {v : Int} (h : ro[5]? = some (some (.d (.int v)))) : ∃ st', ev G38 (.lst (.cons .non (.cons (.int 7) (.cons (.bl true) (.cons (.lst .nil) (.cons .ndic (.cons (.str "") (.cons (.str "A") (.cons (.lst (.cons (.str "b") .nil)) (.cons (.var 5) (.cons (.bin .Mult (.tup (.cons (.int 1) .nil)) (.int 9)) (.cons (.tup (.cons (.str "b") .nil)) .nil)))))))))))) ro st = .ok (.d (.lst (oddL v))) st' ∧ ∀ n, n < st.length → st'[n]? = st[n]? := by
  refine ⟨(st ++ [Cell.dic []]).set st.length (.frz (.dic [] [])), ?_, fun n hn => ?_⟩
  · simp [ev, evs, h, keepAll, keepD, peek, opt2, oddL]
    rw [show binD .Mult (.tup [.int 1]) (.int 9) = some (.tup (List.replicate 9 (.int 1))) from by kernel_rfl]
    simp [okD_some, Ev.R.bind_ok, keepAll, keepD, List.replicate]
  · rw [List.getElem?_set_ne (by omega), List.getElem?_append_left hn]
def dueV : D := .lst dueL
theorem turn_ok (i : Nat) (c : Int) (ro : Ro) (st : Store) (hi : i < 64) (hJ : ro.length = 8 ∧ ro[1]? = some (some (.d dueV))) :
    ∃ ro2 st2, exs G38 l_law_0 ((ro.set 2 (some (.d (.int i)))).set 3 (some (.d (.int c)))) st = .nx ro2 st2 ∧ (ro2.length = 8 ∧ ro2[1]? = some (some (.d dueV))) := by
  obtain ⟨hr, h1⟩ := hJ
  obtain ⟨R0, hR0⟩ : ∃ r, r = (ro.set 2 (some (W.d (.int i)))).set 3 (some (.d (.int c))) := ⟨_, rfl⟩
  rw [← hR0]
  have n0 : R0.length = 8 := by rw [hR0]; simp [hr]
  have q1 : R0[1]? = some (some (.d dueV)) := by rw [hR0]; simp [h1]
  obtain ⟨st1, d1, w1⟩ := ev_draw (G := G38) (st := st) (i := 3) (j := 2) (c := c) (k := i) fs_draw (ro := R0) (by rw [hR0]; simp [hr]) (by rw [hR0]; simp [hr]) (by omega)
  unfold l_law_0
  rw [exs_nx (ex_set_d d1 (by omega))]
  obtain ⟨n, hn⟩ : ∃ n, n = st.length := ⟨_, rfl⟩
  rw [← hn] at w1 ⊢
  obtain ⟨R1, hR1⟩ : ∃ r, r = R0.set 4 (some (W.cell n)) := ⟨_, rfl⟩
  rw [← hR1]
  have n1 : R1.length = 8 := by rw [hR1]; simp [n0]
  have r14 : R1[4]? = some (some (.cell n)) := by rw [hR1]; simp [n0]
  have r13 : R1[3]? = some (some (.d (.int c))) := by rw [hR1, hR0]; simp [hr]
  have p9 : ∀ st, ev G38 (.bin .Pow (.int 10) (.int 9)) R1 st = .ok (.d (.int (10 ^ 9))) st := fun st => ev_bin_d (ev_int 10) (ev_int 9) (bin_pow 10 9 (by decide) (by decide))
  obtain ⟨a, st2, e1, a0, a1, w2⟩ := dg (10 ^ 9) r14 (p9 _) w1 (by decide) (by decide)
  have l1 : ev G38 (.lst (.cons (.bin .Sub (.callS "_law_digit" (.cons (.var 4) (.cons (.bin .Pow (.int 10) (.int 9)) .nil))) (.int 400)) (.cons (.var 3) .nil))) R1 st1 = .ok (.d (.lst [.int (a - 400), .int c])) st2 := by
    rw [ev_lst, evs_cons, ev_bin, e1, Ev.R.bind_ok, ev_int, Ev.R.bind_ok, opt2_dd, show binD .Sub (.int a) (.int 400) = some (.int (a - 400)) from rfl, okD_some, Ev.R.bind_ok, evs_cons, ev_var r13, Ev.R.bind_ok, evs_nil, Ev.R.bind_ok, Ev.R.bind_ok, Ev.R.bind_ok]
    rfl
  obtain ⟨b, st3, e2, b0, b1, w3⟩ := dg 2 r14 (ev_int 2) w2.1 (by decide) (by decide)
  obtain ⟨v, hv1, hv2, hv3⟩ := ix_mem (ds := [.int (a - 400), .int c]) b0 b1
  obtain ⟨v, rfl⟩ : ∃ z : Int, v = .int z := by
    simp only [List.mem_cons, List.mem_nil_iff, or_false] at hv3
    rcases hv3 with rfl | rfl <;> exact ⟨_, rfl⟩
  have s5 : ev G38 (.sub (.lst (.cons (.bin .Sub (.callS "_law_digit" (.cons (.var 4) (.cons (.bin .Pow (.int 10) (.int 9)) .nil))) (.int 400)) (.cons (.var 3) .nil))) (.callS "_law_digit" (.cons (.var 4) (.cons (.int 2) .nil)))) R1 st1 = .ok (.d (.int v)) st3 := by
    rw [ev_sub, l1, Ev.R.bind_ok, e2, Ev.R.bind_ok, opt2_dd, hv1, okD_some]
  rw [exs_nx (ex_set_d s5 (by omega))]
  obtain ⟨R2, hR2⟩ : ∃ r, r = R1.set 5 (some (W.d (.int v))) := ⟨_, rfl⟩
  rw [← hR2]
  have n2 : R2.length = 8 := by rw [hR2]; simp [n1]
  have r24 : R2[4]? = some (some (.cell n)) := by rw [hR2]; simp [r14]
  have r25 : R2[5]? = some (some (.d (.int v))) := by rw [hR2]; simp [n1]
  rw [exs_nx (ro1 := R2) (st1 := st3) (by rw [ex_iff_b (ev_not_b (ev_callP1 fp_hand (ev_var r25) (by_hand_ok v))), if_neg (by decide), exs_nil])]
  obtain ⟨st4, o1, o2⟩ := ev_odds (st := st3) r25
  have w4 : Drw st4 n (64000 + 4 + 4) := drw_keep w3.1 (o2 n (by obtain ⟨_, _, _, z, _⟩ := w3.1; exact (List.getElem?_eq_some_iff.mp z).1))
  obtain ⟨d, st5, e3, d0, d1', w5⟩ := dg 11 r24 (ev_int 11) w4 (by decide) (by decide)
  obtain ⟨od, ho1, ho2, ho3⟩ := ix_mem (ds := oddL v) d0 d1'
  have s6 : ev G38 (.sub (.lst (.cons .non (.cons (.int 7) (.cons (.bl true) (.cons (.lst .nil) (.cons .ndic (.cons (.str "") (.cons (.str "A") (.cons (.lst (.cons (.str "b") .nil)) (.cons (.var 5) (.cons (.bin .Mult (.tup (.cons (.int 1) .nil)) (.int 9)) (.cons (.tup (.cons (.str "b") .nil)) .nil)))))))))))) (.callS "_law_digit" (.cons (.var 4) (.cons (.int 11) .nil)))) R2 st3 = .ok (.d od) st5 := by
    rw [ev_sub, o1, Ev.R.bind_ok, e3, Ev.R.bind_ok, opt2_dd, ho1, okD_some]
  rw [exs_nx (ex_set_d s6 (by omega))]
  obtain ⟨R3, hR3⟩ : ∃ r, r = R2.set 6 (some (W.d od)) := ⟨_, rfl⟩
  rw [← hR3]
  have n3 : R3.length = 8 := by rw [hR3]; simp [n2]
  have r36 : R3[6]? = some (some (.d od)) := by rw [hR3]; simp [n2]
  have r31 : R3[1]? = some (some (.d dueV)) := by rw [hR3, hR2, hR1]; simp [q1]
  have lc : ev G38 (.lc [7] (.nm 7) (.rng1 (.int 8)) (.bl true) (.callP "_law_told" (.cons (.var 7) (.cons (.var 6) .nil)))) R3 st5 = .ok (.d dueV) st5 := by
    have := ev_lcm (G := G38) (own := [7]) (t := .nm 7) (it := .rng1 (.int 8)) (e := .callP "_law_told" (.cons (.var 7) (.cons (.var 6) .nil))) (ro := R3) (st := st5) [.int 0, .int 1, .int 2, .int 3, .int 4, .int 5, .int 6, .int 7] due (by rfl) (by decide) fun y hy =>
      ⟨(wipeW R3 [7]).set 7 (some (.d y)), by simp [asgT, wipeW, n3], ev_callP2 fp_told (ev_var (by simp [wipeW, n3])) (ev_var (by have := (List.getElem?_eq_some_iff.mp r36).2; simpa [wipeW, n3] using this)) (told_ok v od ho3 y hy)⟩
    rw [this]; rfl
  have cn : ev G38 (.cmp .NotEq (.lc [7] (.nm 7) (.rng1 (.int 8)) (.bl true) (.callP "_law_told" (.cons (.var 7) (.cons (.var 6) .nil)))) (.var 1)) R3 st5 = .ok (.d (.bl false)) st5 := ev_neSelf lc (ev_var r31) (by rfl) (Nat.le_of_ble_eq_true (by kernel_rfl))
  rw [exs_nx (ro1 := R3) (st1 := st5) (by rw [ex_iff_b cn, if_neg (by decide), exs_nil]), exs_nil]
  exact ⟨_, _, rfl, n3, r31⟩
def CN : M := .bin .Add (.slc (.var 0) .absent (.int 8)) (.lst (.cons (.bi .sum (.cons (.var 0) .nil)) .nil))
theorem law_true (ns : List Int) (hl : ns.length ≤ 63) (hbits : ∀ z ∈ ns, Builtin.Int.intBits z ≤ 1048576) : f_law [.scr ns] = some (.ok (.bl true)) := by
  show (if ([D.scr ns] : List D).length = 1 then outP (exs G38 b_law (ini 8 ([D.scr ns].map W.d)) []) else none) = _
  rw [if_pos (by rfl)]
  have s1 : ex G38 (hd b_law) (ini 8 ([D.scr ns].map W.d)) [] = .nx ((ini 8 ([D.scr ns].map W.d)).set 1 (some (.d dueV))) [] := by kernel_rfl
  rw [exs_step (by kernel_rfl) s1]
  obtain ⟨ro2, st2, f1, f2, f3⟩ := for_cells (G := G38) (body := l_law_0) (N := 8) (ns := ns) (a := 2) (b := 3) (J := fun ro st => ro.length = 8 ∧ ro[1]? = some (some (.d dueV))) (ro := (ini 8 ([D.scr ns].map W.d)).set 1 (some (.d dueV))) (st := []) hl (by rfl) ⟨rfl, rfl⟩
    (fun ro st h => by omega) turn_ok
  rw [exs_step (by kernel_rfl) (R' := ro2) (st' := st2) (by rw [show hd (tl b_law) = .for_ (.cons (.nm 2) (.cons (.nm 3) .nil)) (.enm (cellsM 8)) l_law_0 from by kernel_rfl]; exact f1)]
  have e : exs G38 (tl (tl b_law)) ro2 st2 = .ret (.d (.bl true)) st2 := by kernel_rfl
  rw [e, outP_ret]
end HX
open PySem PySem.W PySem.Calls PyProof.Rows
theorem PySem.Challenge.cw_heirlists_k07_refusals_by_hand_holds : PySem.Challenge.rw_heirlists_k07_refusals_by_hand.Holds := by
  w_on; o_law
  refine HandSHeadRun.head_any (r := OpenLaw.row PySem.Challenge.rw_heirlists_k07_refusals_by_hand) (q := view (OpenLaw.row PySem.Challenge.rw_heirlists_k07_refusals_by_hand).prog [65]) (H := HX.hk) (ob := HX.ob) (M := 20000) (loose := HX.loose) (d := HandSHeadRun.topDef (OpenLaw.row PySem.Challenge.rw_heirlists_k07_refusals_by_hand).prog 65) (kwd := []) HX.ob_eq
    (by kernel_rfl) (fun s => by kernel_rfl) HX.run (by kernel_rfl) (by kernel_rfl) (by kernel_rfl) (by rfl) (by first | assumption | decide +kernel) (by decide +kernel) ⟨rfl, rfl, rfl, rfl, rfl, by decide +kernel⟩ ?hw ?hc
  case hw => w_witness2
  case hc =>
    refine Ev.walk_ofG (l := PySem.Challenge.rw_heirlists_k07_refusals_by_hand) (n := 63) (k := 42) (x := "_law_script") rfl (by decide +kernel) (by kernel_rfl) ⟨rfl, by decide, by decide⟩ ?F
    intro w mg fa h Y Gm hmg0
    obtain ⟨K, KX, c⟩ := Y
    have hmg : mg ("law" : PySem.Str) = some (.ref fa) := by
      have e : (HandSHeadRun.topDef (OpenLaw.row PySem.Challenge.rw_heirlists_k07_refusals_by_hand).prog 65).name = ("law" : PySem.Str) := by kernel_rfl
      rw [← e]
      exact hmg0
    obtain ⟨fd, hb, hF⟩ := HX.facts (P := (PySem.Challenge.rw_heirlists_k07_refusals_by_hand).prog) (w := w) KX Gm hmg c.1 c.2
    exact ⟨K, fd, Ev.spP (Ev.isXv K) K 1 HX.f_law, KX, hb, fun H a ns hl hbits hS => Ev.law_sp (HX.law_true ns hl hbits) hS, hF⟩
