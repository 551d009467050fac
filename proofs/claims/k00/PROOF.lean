import PyProof.Rows.All
import Wide.All
import OpenK.AllK
import Wide.FinOn
import HandS.ForMost
import HandS.Exc
import HandS.WordsExc
import HandS.CallSlots
import HandS.Defaults
import HandS.IsInst
import HandS.Wide
import HandS.StrMore
import HandS.Walk
import HandS.Flow
import HandS.Ends
import HandS.HeadEnd
import HandS.HeadHook2
import HandS.Head0
import HandS.Head1
import HandS.Head2
import PyProof.Rows.StrIntSpec
import PySem.Challenge.RW_touchrows_k00_whole_names_and_numbers
set_option Elab.async false
set_option linter.all false
set_option maxRecDepth 100000
set_option maxHeartbeats 1000000
namespace Itp
open PySem PySem.Spec L2

/-! ### data -/
/-- the built-in types -/
inductive Tn where
  | non | bool | int | str | tuple | list | dict
  deriving DecidableEq
def tnS : Tn → String
  | .non => "NoneType"
  | .bool => "bool"
  | .int => "int"
  | .str => "str"
  | .tuple => "tuple"
  | .list => "list"
  | .dict => "dict"
/-- a value as a tree; ref n: the n-th thing of the store -/
inductive D where
  | non | bl (b : Bool) | int (i : Int) | str (x : Str)
  | tup (xs : List D) | lst (xs : List D)
  | dct (ks vs : List D)
  | scr (ns : List Int)
  | ref (n : Nat)
  | ty (n : Tn)
  | glo (x : Str)

/-- what may be changed -/
inductive MO where
  | lst (xs : List D)
  | dead

abbrev Sto := List MO

/-- an error in flight: its class's name, what it keeps -/
structure Exn where
  c : Str
  f : Option (Str × D)

inductive R (α : Type) where
  | ok (a : α) (S : Sto)
  | exc (e : Exn) (S : Sto)
  | bad

def R.bind {α β : Type} (r : R α) (f : α → Sto → R β) : R β := match r with
  | .ok a S => f a S
  | .exc e S => .exc e S
  | .bad => .bad

/-! ### worlds -/
/-- fr: what never changes any more; io: where the things of the store stand -/
structure Wd where
  fr : Hp
  io : List Addr
/-- the written part, the module's names -/
structure Kg where
  K : PySem.W.Frag
  mg : Str → Option Value

structure Wd.le (W W' : Wd) : Prop where
  fr : ∀ a o, W.fr a = some o → W'.fr a = some o
  io : W.io <+: W'.io

/-- a key as data -/
def ofKey : Key → D
  | .inl i => .int i
  | .inr x => .str x
mutual
inductive RepV (k : Kg) (W : Wd) : D → V → Prop
  | non : RepV k W .non .non
  | bl (b : Bool) : RepV k W (.bl b) (.bl b)
  | int (i : Int) : RepV k W (.int i) (.int i)
  | str (x : Str) : RepV k W (.str x) (.str x)
  | tup {ds : List D} {a : Addr} {vs : List V} (h : SqT k.K W.fr a vs) (r : RepVs k W ds vs) : RepV k W (.tup ds) (.ref a)
  | lst {ds : List D} {a : Addr} {vs : List V} (h : W.fr a = some (.lst vs)) (r : RepVs k W ds vs) : RepV k W (.lst ds) (.ref a)
  | dK {ks vs : List D} {a : Addr} {kvs : List (Key × V)} (h : W.fr a = some (.dK kvs)) (hk : ks = kvs.map fun kv => ofKey kv.1) (r : RepVs k W vs (kvs.map (·.2))) : RepV k W (.dct ks vs) (.ref a)
  | dT {ks vs : List D} {a : Addr} {kvs : List (List Key × V)} (h : W.fr a = some (.dT kvs)) (hk : ks = kvs.map fun kv => .tup (kv.1.map ofKey)) (r : RepVs k W vs (kvs.map (·.2))) : RepV k W (.dct ks vs) (.ref a)
  | scr {ns : List Int} {a : Addr} (h : SqL k.K W.fr a (ns.map V.int)) : RepV k W (.scr ns) (.ref a)
  | ref {n : Nat} {a : Addr} (h : W.io[n]? = some a) : RepV k W (.ref n) (.ref a)
  | ty (n : Tn) : RepV k W (.ty n) (.ty (tnS n))
  | glo {x : Str} {a : Addr} (h : k.mg x = some (.ref a)) : RepV k W (.glo x) (.ref a)
inductive RepVs (k : Kg) (W : Wd) : List D → List V → Prop
  | nil : RepVs k W [] []
  | cons {d : D} {ds : List D} {v : V} {vs : List V} (h : RepV k W d v) (r : RepVs k W ds vs) : RepVs k W (d :: ds) (v :: vs)
end

theorem Wd.le.refl (W : Wd) : W.le W := ⟨fun _ _ h => h, List.prefix_refl _⟩
theorem Wd.le.trans {W W1 W2 : Wd} (a : W.le W1) (b : W1.le W2) : W.le W2 :=
  ⟨fun x o h => b.fr x o (a.fr x o h), a.io.trans b.io⟩
theorem sqT_mono {K : PySem.W.Frag} {F F' : Hp} {a : Addr} {vs : List V} (h : SqT K F a vs) (e : ∀ a o, F a = some o → F' a = some o) : SqT K F' a vs := by
  rcases h with (h | ⟨o, h⟩) | h
  · exact .inl (.inl (e _ _ h))
  · exact .inl (.inr ⟨o, e _ _ h⟩)
  · exact .inr h
theorem sqL_mono {K : PySem.W.Frag} {F F' : Hp} {a : Addr} {vs : List V} (h : SqL K F a vs) (e : ∀ a o, F a = some o → F' a = some o) : SqL K F' a vs := by
  rcases h with (h | ⟨o, h⟩) | h
  · exact .inl (.inl (e _ _ h))
  · exact .inl (.inr ⟨o, e _ _ h⟩)
  · exact .inr h
theorem io_mono {W W' : Wd} (e : W.le W') {n : Nat} {a : Addr} (h : W.io[n]? = some a) : W'.io[n]? = some a := by
  obtain ⟨t, ht⟩ := e.io
  rw [← ht, List.getElem?_append_left (List.getElem?_eq_some_iff.mp h).1]
  exact h
mutual
theorem RepV.mono {k : Kg} {W W' : Wd} (e : W.le W') : ∀ {d : D} {v : V}, RepV k W d v → RepV k W' d v
  | _, _, .non => .non
  | _, _, .bl b => .bl b
  | _, _, .int i => .int i
  | _, _, .str x => .str x
  | _, _, .tup h r => .tup (sqT_mono h e.fr) (RepVs.mono e r)
  | _, _, .lst h r => .lst (e.fr _ _ h) (RepVs.mono e r)
  | _, _, .dK h hk r => .dK (e.fr _ _ h) hk (RepVs.mono e r)
  | _, _, .dT h hk r => .dT (e.fr _ _ h) hk (RepVs.mono e r)
  | _, _, .scr h => .scr (sqL_mono h e.fr)
  | _, _, .ref h => .ref (io_mono e h)
  | _, _, .ty n => .ty n
  | _, _, .glo h => .glo h
theorem RepVs.mono {k : Kg} {W W' : Wd} (e : W.le W') : ∀ {ds : List D} {vs : List V}, RepVs k W ds vs → RepVs k W' ds vs
  | _, _, .nil => .nil
  | _, _, .cons h r => .cons (RepV.mono e h) (RepVs.mono e r)
end
theorem RepVs.length {k : Kg} {W : Wd} : ∀ {ds : List D} {vs : List V}, RepVs k W ds vs → vs.length = ds.length
  | _, _, .nil => rfl
  | _, _, .cons _ r => by simp [RepVs.length r]
theorem RepVs.get {k : Kg} {W : Wd} : ∀ {ds : List D} {vs : List V} {i : Nat} {d : D}, RepVs k W ds vs → ds[i]? = some d → ∃ v, vs[i]? = some v ∧ RepV k W d v
  | _, _, _, _, .nil, e => by simp at e
  | _, _, 0, _, .cons h _, e => by simp at e; subst e; exact ⟨_, rfl, h⟩
  | _, _, i + 1, d, .cons _ r, e => by
    obtain ⟨v, h1, h2⟩ := RepVs.get (i := i) (d := d) r (by simpa using e)
    exact ⟨v, by simpa using h1, h2⟩
theorem RepVs.append {k : Kg} {W : Wd} : ∀ {ds es : List D} {vs us : List V}, RepVs k W ds vs → RepVs k W es us → RepVs k W (ds ++ es) (vs ++ us)
  | _, _, _, _, .nil, s => s
  | _, _, _, _, .cons h r, s => .cons h (RepVs.append r s)
theorem RepVs.take {k : Kg} {W : Wd} : ∀ {ds : List D} {vs : List V} (n : Nat), RepVs k W ds vs → RepVs k W (ds.take n) (vs.take n)
  | _, _, 0, _ => .nil
  | _, _, _ + 1, .nil => .nil
  | _, _, n + 1, .cons h r => .cons h (RepVs.take n r)
theorem RepVs.drop {k : Kg} {W : Wd} : ∀ {ds : List D} {vs : List V} (n : Nat), RepVs k W ds vs → RepVs k W (ds.drop n) (vs.drop n)
  | _, _, 0, r => r
  | _, _, _ + 1, .nil => .nil
  | _, _, n + 1, .cons _ r => RepVs.drop n r
theorem RepVs.set {k : Kg} {W : Wd} {d : D} {v : V} (h : RepV k W d v) : ∀ {ds : List D} {vs : List V} (n : Nat), RepVs k W ds vs → RepVs k W (ds.set n d) (vs.set n v)
  | _, _, _, .nil => .nil
  | _, _, 0, .cons _ r => .cons h r
  | _, _, n + 1, .cons q r => .cons q (RepVs.set h n r)
theorem RepVs.snoc {k : Kg} {W : Wd} {ds : List D} {vs : List V} {d : D} {v : V} (r : RepVs k W ds vs) (h : RepV k W d v) : RepVs k W (ds ++ [d]) (vs ++ [v]) := r.append (.cons h .nil)

inductive RepM (k : Kg) (W : Wd) : MO → HO → Prop
  | lst {ds : List D} {vs : List V} (r : RepVs k W ds vs) : RepM k W (.lst ds) (.lst vs)
theorem RepM.mono {k : Kg} {W W' : Wd} (e : W.le W') {m : MO} {o : HO} (h : RepM k W m o) : RepM k W' m o := by
  cases h with
  | lst r => exact .lst (r.mono e)

/-- the abstract heap holds the world and the store -/
structure RepH (k : Kg) (W : Wd) (S : Sto) (H : Hp) : Prop where
  fr : ∀ a o, W.fr a = some o → H a = some o
  st : ∀ (n : Nat) (m : MO), S[n]? = some m → m ≠ .dead → ∃ a o, W.io[n]? = some a ∧ H a = some o ∧ RepM k W m o ∧ W.fr a = none
  len : W.io.length = S.length
  nd : W.io.Nodup
  all : ∀ a ∈ W.io, H a ≠ none

abbrev Gam := List (Option D)
/-- the slots -/
def RepS (k : Kg) (W : Wd) (G : Gam) (σ : St) : Prop := G.length = σ.length ∧ ∀ (i : Nat) (d : D), G[i]? = some (some d) → ∃ v, σ[i]? = some (some v) ∧ RepV k W d v
theorem RepS.mono {k : Kg} {W W' : Wd} (e : W.le W') {G : Gam} {σ : St} (h : RepS k W G σ) : RepS k W' G σ :=
  ⟨h.1, fun i d q => let ⟨v, h1, h2⟩ := h.2 i d q; ⟨v, h1, h2.mono e⟩⟩
theorem RepS.set {k : Kg} {W : Wd} {G : Gam} {σ : St} (h : RepS k W G σ) {d : D} {v : V} (r : RepV k W d v) (i : Nat) : RepS k W (G.set i (some d)) (σ.set i (some v)) := by
  refine ⟨by simp [h.1], fun j e q => ?_⟩
  by_cases hj : i = j
  · subst hj
    rw [List.getElem?_set] at q ⊢
    have hl := h.1
    by_cases hi : i < G.length
    · simp [hi] at q
      subst q
      exact ⟨v, by simp [show i < σ.length by omega], r⟩
    · simp [hi] at q
  · rw [List.getElem?_set_ne hj] at q ⊢
    exact h.2 j e q

theorem prefix_nodup {l : List Addr} {p : Addr} (h : l.Nodup) (n : p ∉ l) : (l ++ [p]).Nodup := by
  rw [List.nodup_append]
  refine ⟨h, by simp, fun a ha b hb => ?_⟩
  simp at hb
  subst hb
  exact fun e => n (e ▸ ha)

section
variable {k : Kg} {W : Wd} {S : Sto} {H : Hp} {p : Addr}
theorem RepH.frNone (h : RepH k W S H) (hp : H p = none) : W.fr p = none := by
  cases e : W.fr p with
  | none => rfl
  | some o => rw [h.fr p o e] at hp; cases hp
theorem RepH.ioNo (h : RepH k W S H) (hp : H p = none) : p ∉ W.io := fun z => h.all p z hp
/-- a thing that never changes is laid -/
def Wd.lay (W : Wd) (p : Addr) (o : HO) : Wd := { W with fr := upd W.fr p o }
theorem lay_le {o : HO} (h : W.fr p = none) : W.le (W.lay p o) :=
  ⟨fun a u e => by show upd W.fr p o a = _; rw [upd_ne (ne_of_none e h)]; exact e, List.prefix_refl _⟩
theorem RepH.lay {o : HO} (h : RepH k W S H) (hp : H p = none) : RepH k (W.lay p o) S (upd H p o) := by
  have hn := h.frNone hp
  refine ⟨fun a u e => ?_, fun n m e z => ?_, h.len, h.nd, fun a ha => ?_⟩
  · by_cases q : a = p
    · subst q
      have e : upd W.fr a o a = some u := e
      rw [upd_same] at e ⊢
      exact e
    · have e : upd W.fr p o a = some u := e
      rw [upd_ne q] at e ⊢
      exact h.fr a u e
  · obtain ⟨a, u, h1, h2, h3, h4⟩ := h.st n m e z
    have q : a ≠ p := ne_of_none h2 hp
    exact ⟨a, u, h1, by rw [upd_ne q]; exact h2, h3.mono (lay_le hn), by show upd W.fr p o a = _; rw [upd_ne q]; exact h4⟩
  · by_cases q : a = p
    · subst q
      rw [upd_same]
      simp
    · rw [upd_ne q]
      exact h.all a ha
/-- a new thing of the store -/
def Wd.add (W : Wd) (p : Addr) : Wd := { W with io := W.io ++ [p] }
theorem add_le : W.le (W.add p) := ⟨fun _ _ e => e, ⟨[p], rfl⟩⟩
theorem RepH.add {o : HO} {m : MO} (h : RepH k W S H) (hp : H p = none) (r : RepM k W m o) : RepH k (W.add p) (S ++ [m]) (upd H p o) := by
  have hn := h.frNone hp
  refine ⟨fun a u e => ?_, fun n kk e z => ?_, by show (W.io ++ [p]).length = _; simp [h.len], prefix_nodup h.nd (h.ioNo hp), fun a ha => ?_⟩
  · rw [upd_ne (ne_of_none (h.fr a u e) hp)]
    exact h.fr a u e
  · by_cases q : n < S.length
    · rw [List.getElem?_append_left q] at e
      obtain ⟨a, u, h1, h2, h3, h4⟩ := h.st n kk e z
      exact ⟨a, u, io_mono add_le h1, by rw [upd_ne (ne_of_none h2 hp)]; exact h2, h3.mono add_le, h4⟩
    · have e2 := List.getElem?_eq_some_iff.mp e
      have : n = S.length := by
        have := e2.1
        simp at this
        omega
      subst this
      simp at e
      subst e
      refine ⟨p, o, ?_, upd_same, r.mono add_le, hn⟩
      show (W.io ++ [p])[S.length]? = some p
      rw [← h.len]
      simp
  · have ha : a ∈ W.io ++ [p] := ha
    rcases List.mem_append.mp ha with z | z
    · rw [upd_ne (fun q : a = p => h.ioNo hp (by rw [← q]; exact z))]
      exact h.all a z
    · simp at z
      subst z
      rw [upd_same]
      simp
/-- a thing of the store is written -/
theorem RepH.write {o : HO} {m m' : MO} {n : Nat} {a : Addr} (h : RepH k W S H) (hm : S[n]? = some m) (hd : m ≠ .dead) (ha : W.io[n]? = some a) (r : RepM k W m' o) : RepH k W (S.set n m') (upd H a o) := by
  obtain ⟨a', u, h1, h2, h3, h4⟩ := h.st n m hm hd
  rw [ha] at h1
  cases h1
  refine ⟨fun b v e => ?_, fun j l e z => ?_, by simp [h.len], h.nd, fun b hb => ?_⟩
  · have q : b ≠ a := fun q => by rw [q, h4] at e; cases e
    rw [upd_ne q]
    exact h.fr b v e
  · by_cases q : n = j
    · subst q
      have hl := (List.getElem?_eq_some_iff.mp hm).1
      rw [List.getElem?_set_self hl] at e
      cases e
      exact ⟨a, o, ha, upd_same, r, h4⟩
    · rw [List.getElem?_set_ne q] at e
      obtain ⟨b, v, g1, g2, g3, g4⟩ := h.st j l e z
      have nb : b ≠ a := by
        intro e2
        subst e2
        obtain ⟨l1, e1⟩ := List.getElem?_eq_some_iff.mp ha
        obtain ⟨l2, e2⟩ := List.getElem?_eq_some_iff.mp g1
        exact q ((List.getElem_inj h.nd).mp (e1.trans e2.symm))
      exact ⟨b, v, g1, by rw [upd_ne nb]; exact g2, g3, g4⟩
  · by_cases q : b = a
    · subst q
      rw [upd_same]
      simp
    · rw [upd_ne q]
      exact h.all b hb
end
/-- from a world to a later one: nothing is written but the things of the store -/
structure Frm (W0 : Wd) (H0 : Hp) (W : Wd) (H : Hp) : Prop where
  le : W0.le W
  keep : ∀ a o, H0 a = some o → a ∉ W0.io → H a = some o
  new : ∀ a ∈ W.io, a ∈ W0.io ∨ H0 a = none
  newf : ∀ a o, W.fr a = some o → W0.fr a = some o ∨ a ∈ W0.io ∨ H0 a = none
theorem Frm.refl (W : Wd) (H : Hp) : Frm W H W H := ⟨Wd.le.refl W, fun _ _ h _ => h, fun _ h => .inl h, fun _ _ h => .inl h⟩
theorem Frm.trans {W0 W1 W2 : Wd} {H0 H1 H2 : Hp} (a : Frm W0 H0 W1 H1) (b : Frm W1 H1 W2 H2) : Frm W0 H0 W2 H2 := by
  have back : ∀ x, H1 x = none → x ∈ W0.io ∨ H0 x = none := fun x q => by
    by_cases z : x ∈ W0.io
    · exact .inl z
    · cases e : H0 x with
      | none => exact .inr rfl
      | some o => rw [a.keep x o e z] at q; cases q
  refine ⟨a.le.trans b.le, fun x o h n => ?_, fun x h => ?_, fun x o h => ?_⟩
  · refine b.keep x o (a.keep x o h n) fun z => ?_
    rcases a.new x z with q | q
    · exact n q
    · rw [h] at q; cases q
  · rcases b.new x h with q | q
    · exact a.new x q
    · exact back x q
  · rcases b.newf x o h with q | q | q
    · exact a.newf x o q
    · exact .inr (a.new x q)
    · exact .inr (back x q)
theorem Frm.lay {W : Wd} {H : Hp} {p : Addr} {o : HO} (hf : W.fr p = none) (hp : H p = none) : Frm W H (W.lay p o) (upd H p o) :=
  ⟨lay_le hf, fun a u e _ => by rw [upd_ne (ne_of_none e hp)]; exact e, fun a h => .inl h, fun a u h => by
    have h : upd W.fr p o a = some u := h
    by_cases z : a = p
    · rw [z]; exact .inr (.inr hp)
    · rw [upd_ne z] at h; exact .inl h⟩
theorem Frm.add {W : Wd} {H : Hp} {p : Addr} {o : HO} (hp : H p = none) : Frm W H (W.add p) (upd H p o) := by
  refine ⟨add_le, fun a u e _ => by rw [upd_ne (ne_of_none e hp)]; exact e, fun a h => ?_, fun a u h => .inl h⟩
  have h : a ∈ W.io ++ [p] := h
  rcases List.mem_append.mp h with z | z
  · exact .inl z
  · simp at z; subst z; exact .inr hp
theorem Frm.write {W : Wd} {H : Hp} {n : Nat} {p : Addr} {o : HO} (hp : W.io[n]? = some p) : Frm W H W (upd H p o) :=
  ⟨Wd.le.refl W, fun a u e na => by rw [upd_ne (fun z : a = p => na (by rw [z]; exact List.mem_of_getElem? hp))]; exact e, fun a h => .inl h, fun a u h => .inl h⟩
/-- an untracked thing that stands in H is new or written -/
theorem Frm.priv {W : Wd} {H : Hp} {p : Addr} {o : HO} (hp : H p = none) : Frm W H W (upd H p o) :=
  ⟨Wd.le.refl W, fun a u e _ => by rw [upd_ne (ne_of_none e hp)]; exact e, fun a h => .inl h, fun a u h => .inl h⟩
/-- a private thing (of no world) is written again -/
theorem Frm.again {W0 W : Wd} {H0 H : Hp} {p : Addr} {o : HO} (f : Frm W0 H0 W H) (hp : H0 p = none) : Frm W0 H0 W (upd H p o) :=
  ⟨f.le, fun a u e n => by rw [upd_ne (ne_of_none e hp)]; exact f.keep a u e n, f.new, f.newf⟩
section
variable {k : Kg} {W : Wd} {S : Sto} {H : Hp} {p : Addr} {o : HO}
theorem RepH.priv (h : RepH k W S H) (hf : W.fr p = none) (hn : p ∉ W.io) : RepH k W S (upd H p o) := by
  refine ⟨fun a u e => ?_, fun n m e z => ?_, h.len, h.nd, fun a ha => ?_⟩
  · rw [upd_ne (ne_of_none e hf)]
    exact h.fr a u e
  · obtain ⟨a, u, h1, h2, h3, h4⟩ := h.st n m e z
    exact ⟨a, u, h1, by rw [upd_ne (fun q : a = p => hn (by rw [← q]; exact List.mem_of_getElem? h1))]; exact h2, h3, h4⟩
  · rw [upd_ne (fun q : a = p => hn (by rw [← q]; exact ha))]
    exact h.all a ha
theorem RepH.layAt (h : RepH k W S H) (e : H p = some o) (hf : W.fr p = none) (hn : p ∉ W.io) : RepH k (W.lay p o) S H := by
  refine ⟨fun a u q => ?_, fun n m q z => ?_, h.len, h.nd, h.all⟩
  · have q : upd W.fr p o a = some u := q
    by_cases z : a = p
    · rw [z] at q ⊢
      rw [upd_same] at q
      rw [e]
      exact q
    · rw [upd_ne z] at q
      exact h.fr a u q
  · obtain ⟨a, u, h1, h2, h3, h4⟩ := h.st n m q z
    have na : a ≠ p := fun q : a = p => hn (by rw [← q]; exact List.mem_of_getElem? h1)
    exact ⟨a, u, h1, h2, h3.mono (lay_le hf), by show upd W.fr p o a = _; rw [upd_ne na]; exact h4⟩
theorem RepH.addAt {m : MO} (h : RepH k W S H) (e : H p = some o) (hf : W.fr p = none) (hn : p ∉ W.io) (r : RepM k W m o) : RepH k (W.add p) (S ++ [m]) H := by
  refine ⟨h.fr, fun n kk q z => ?_, by show (W.io ++ [p]).length = _; simp [h.len], prefix_nodup h.nd hn, fun a ha => ?_⟩
  · by_cases c : n < S.length
    · rw [List.getElem?_append_left c] at q
      obtain ⟨a, u, h1, h2, h3, h4⟩ := h.st n kk q z
      exact ⟨a, u, io_mono add_le h1, h2, h3.mono add_le, h4⟩
    · have e2 := List.getElem?_eq_some_iff.mp q
      have : n = S.length := by
        have := e2.1
        simp at this
        omega
      subst this
      simp at q
      subst q
      refine ⟨p, o, ?_, e, r.mono add_le, hf⟩
      show (W.io ++ [p])[S.length]? = some p
      rw [← h.len]
      simp
  · have ha : a ∈ W.io ++ [p] := ha
    rcases List.mem_append.mp ha with z | z
    · exact h.all a z
    · simp at z
      subst z
      rw [e]
      simp
end
theorem SqT.real {k : Kg} {W : Wd} {S : Sto} {H : Hp} (h : RepH k W S H) {a : Addr} {vs : List V} (q : SqT k.K W.fr a vs) : SqT k.K H a vs := sqT_mono q h.fr
theorem SqL.real {k : Kg} {W : Wd} {S : Sto} {H : Hp} (h : RepH k W S H) {a : Addr} {vs : List V} (q : SqL k.K W.fr a vs) : SqL k.K H a vs := sqL_mono q h.fr
end Itp

namespace Itp
open PySem PySem.Spec L2

/-! ### what a reading is to reach, by values -/
def FinV (k : Kg) (W0 : Wd) (H0 : Hp) (r : R D) (Q : VK) : Prop := match r with
  | .ok d S => ∀ W H v, Frm W0 H0 W H → RepH k W S H → RepV k W d v → Q v H
  | _ => False
abbrev kg (X : Cx) : Kg := ⟨X.K, X.mg⟩
/-- a two-place operation -/
def rD2 (k : Kg) (f : D → D → Sto → R D) : R2 := fun x y H Q => ∃ W S a b, RepV k W a x ∧ RepV k W b y ∧ RepH k W S H ∧ FinV k W H (f a b S) Q
def rD1 (k : Kg) (f : D → Sto → R D) : V → Hp → VK → Prop := fun x H Q => ∃ W S a, RepV k W a x ∧ RepH k W S H ∧ FinV k W H (f a S) Q
def rDL (k : Kg) (f : List D → Sto → R D) : List V → Hp → VK → Prop := fun xs H Q => ∃ W S as, RepVs k W as xs ∧ RepH k W S H ∧ FinV k W H (f as S) Q
def rDM (k : Kg) (f : D → List D → Sto → R D) : V → List V → Hp → VK → Prop := fun x xs H Q => ∃ W S a as, RepV k W a x ∧ RepVs k W as xs ∧ RepH k W S H ∧ FinV k W H (f a as S) Q
theorem FinV.here {k : Kg} {W : Wd} {S : Sto} {H : Hp} {d : D} {v : V} {Q : VK} (h : RepH k W S H) (r : RepV k W d v) (q : FinV k W H (.ok d S) Q) : Q v H := q W H v (Frm.refl W H) h r

/-! ### lists and tuples that are read -/
def lview (S : Sto) : D → Option (List D)
  | .lst xs => some xs
  | .ref n => match S[n]? with
    | some (.lst xs) => some xs
    | _ => none
  | _ => none
def sview (S : Sto) : D → Option (List D)
  | .tup xs => some xs
  | d => lview S d
section
variable {k : Kg} {W : Wd} {S : Sto} {H : Hp}
theorem lview_ok (h : RepH k W S H) {d : D} {v : V} (r : RepV k W d v) {xs : List D} (e : lview S d = some xs) : ∃ a vs, v = .ref a ∧ H a = some (.lst vs) ∧ RepVs k W xs vs := by
  cases r with
  | lst h1 r1 =>
    cases e
    exact ⟨_, _, rfl, h.fr _ _ h1, r1⟩
  | @ref n a h1 =>
    have e : (match S[n]? with
      | some (.lst xs) => some xs
      | _ => none) = some xs := e
    cases q : S[n]? with
    | none => rw [q] at e; cases e
    | some m =>
      rw [q] at e
      cases m with
      | lst ys =>
        cases e
        obtain ⟨a', o, g1, g2, g3, _⟩ := h.st n _ q (fun z => nomatch z)
        rw [h1] at g1
        cases g1
        cases g3 with
        | lst r => exact ⟨a, _, rfl, g2, r⟩
      | dead => cases e
  | _ => cases e
theorem sview_ok (h : RepH k W S H) {d : D} {v : V} (r : RepV k W d v) {xs : List D} (e : sview S d = some xs) : ∃ a vs, v = .ref a ∧ (SqL k.K H a vs ∨ SqT k.K H a vs) ∧ RepVs k W xs vs := by
  cases r with
  | tup h1 r1 =>
    cases e
    exact ⟨_, _, rfl, .inr (SqT.real h h1), r1⟩
  | lst h1 r1 =>
    obtain ⟨a, vs, h2, h3, h4⟩ := lview_ok h (.lst h1 r1) e
    exact ⟨a, vs, h2, .inl (.inl (.inl h3)), h4⟩
  | ref h1 =>
    obtain ⟨a, vs, h2, h3, h4⟩ := lview_ok h (.ref h1) e
    exact ⟨a, vs, h2, .inl (.inl (.inl h3)), h4⟩
  | _ => cases e
end
/-- a new list, of the store (m) or for ever -/
def mk (m : Bool) (xs : List D) (S : Sto) : R D := if m then .ok (.ref S.length) (S ++ [.lst xs]) else .ok (.lst xs) S
section
variable {k : Kg} {W : Wd} {S : Sto} {H : Hp} {Q : VK}
theorem mk_ok {m : Bool} {xs : List D} {vs : List V} (h : RepH k W S H) (r : RepVs k W xs vs) (q : FinV k W H (mk m xs S) Q) (p : Addr) (hp : H p = none) : Q (.ref p) (upd H p (.lst vs)) := by
  unfold mk at q
  cases m with
  | true =>
    refine q (W.add p) _ _ (Frm.add hp) (h.add hp (.lst r)) (.ref ?_)
    show (W.io ++ [p])[S.length]? = some p
    rw [← h.len]
    simp
  | false =>
    have hf := h.frNone hp
    refine q (W.lay p (.lst vs)) _ _ (Frm.lay hf hp) (h.lay hp) (.lst ?_ (r.mono (lay_le hf)))
    exact upd_same
theorem mkT_ok {xs : List D} {vs : List V} (h : RepH k W S H) (r : RepVs k W xs vs) (q : FinV k W H (.ok (.tup xs) S) Q) (p : Addr) (hp : H p = none) : Q (.ref p) (upd H p (.tup vs)) := by
  have hf := h.frNone hp
  refine q (W.lay p (.tup vs)) _ _ (Frm.lay hf hp) (h.lay hp) (.tup (.inl (.inl ?_)) (r.mono (lay_le hf)))
  exact upd_same
end

/-! ### data as the library has it -/
mutual
def D.toP : D → Option PyData
  | .non => some .none
  | .bl b => some (.bool b)
  | .int i => some (.int i)
  | .str x => some (.str x)
  | .tup xs => (D.toPs xs).map .tuple
  | .lst xs => (D.toPs xs).map .list
  | _ => none
def D.toPs : List D → Option (List PyData)
  | [] => some []
  | d :: ds => match D.toP d, D.toPs ds with
    | some p, some ps => some (p :: ps)
    | _, _ => none
end
def view (S : Sto) : D → D
  | .ref n => match S[n]? with
    | some (.lst xs) => .lst xs
    | _ => .ref n
  | d => d
section
variable {k : Kg} {W : Wd} {S : Sto} {H : Hp}
mutual
theorem RepV.dp (h : RepH k W S H) : ∀ {d : D} {v : V} {p : PyData}, RepV k W d v → d.toP = some p → Dp k.K H v p
  | _, _, _, .non, e => by cases e; exact .non
  | _, _, _, .bl b, e => by cases e; exact .bl b
  | _, _, _, .int i, e => by cases e; exact .int i
  | _, _, _, .str x, e => by cases e; exact .str x
  | .tup ds, _, p, .tup h1 r1, e => by
    have e : (D.toPs ds).map PyData.tuple = some p := by rw [← e]; rw [D.toP]
    cases q : D.toPs ds with
    | none => rw [q] at e; cases e
    | some ps => rw [q] at e; cases e; exact .tup (SqT.real h h1) (RepVs.dp h r1 q)
  | .lst ds, _, p, .lst h1 r1, e => by
    have e : (D.toPs ds).map PyData.list = some p := by rw [← e]; rw [D.toP]
    cases q : D.toPs ds with
    | none => rw [q] at e; cases e
    | some ps => rw [q] at e; cases e; exact .lst (.inl (.inl (h.fr _ _ h1))) (RepVs.dp h r1 q)
  | _, _, _, .dK _ _ _, e => by rw [D.toP] at e <;> first | cases e | (intros; nofun)
  | _, _, _, .dT _ _ _, e => by rw [D.toP] at e <;> first | cases e | (intros; nofun)
  | _, _, _, .scr _, e => by rw [D.toP] at e <;> first | cases e | (intros; nofun)
  | _, _, _, .ref _, e => by rw [D.toP] at e <;> first | cases e | (intros; nofun)
  | _, _, _, .ty _, e => by rw [D.toP] at e <;> first | cases e | (intros; nofun)
  | _, _, _, .glo _, e => by rw [D.toP] at e <;> first | cases e | (intros; nofun)
theorem RepVs.dp (h : RepH k W S H) : ∀ {ds : List D} {vs : List V} {ps : List PyData}, RepVs k W ds vs → D.toPs ds = some ps → DpAll k.K H vs ps
  | _, _, _, .nil, e => by rw [D.toPs] at e; cases e; exact .nil
  | d :: ds, _, ps, .cons h1 r1, e => by
    rw [D.toPs] at e
    cases q1 : D.toP d with
    | none => rw [q1] at e; cases e
    | some p =>
      cases q2 : D.toPs ds with
      | none => rw [q1, q2] at e; cases e
      | some qs =>
        rw [q1, q2] at e
        cases e
        exact .cons (RepV.dp h h1 q1) (RepVs.dp h r1 q2)
end
theorem view_dp (h : RepH k W S H) {d : D} {v : V} {p : PyData} (r : RepV k W d v) (e : (view S d).toP = some p) : Dp k.K H v p := by
  cases d with
  | ref n =>
    cases q : S[n]? with
    | none =>
      have e : (match S[n]? with | some (.lst xs) => D.lst xs | _ => D.ref n).toP = some p := e
      rw [q] at e
      exact r.dp h e
    | some m =>
      have e : (match S[n]? with | some (.lst xs) => D.lst xs | _ => D.ref n).toP = some p := e
      rw [q] at e
      cases m with
      | dead => exact r.dp h e
      | lst ys =>
        obtain ⟨a, vs, h1, h2, h3⟩ := lview_ok h r (xs := ys) (by show (match S[n]? with | some (.lst xs) => some xs | _ => none) = _; rw [q])
        have e : (D.toPs ys).map PyData.list = some p := by rw [← e]; show _ = (D.lst ys).toP; rw [D.toP]
        cases q : D.toPs ys with
        | none => rw [q] at e; cases e
        | some ps => rw [q] at e; cases e; subst h1; exact .lst (.inl (.inl h2)) (RepVs.dp h h3 q)
  | _ => exact r.dp h e
end

/-! ### operators -/
def lim : Nat := 4000000
theorem lim_line {n : Nat} (h : n ≤ lim) : n ≤ sizeLine := Nat.le_trans h (by rw [sizeLine_eq]; decide)
def binop (m : Bool) (o : Operator) (a b : D) (S : Sto) : R D := match o, a, b with
  | .Add, .int i, .int j => .ok (.int (i + j)) S
  | .Sub, .int i, .int j => .ok (.int (i - j)) S
  | .Mult, .int i, .int j => if i.natAbs.log2 + j.natAbs.log2 < 1000000 then .ok (.int (i * j)) S else .bad
  | .Mod, .int i, .int j => if 0 < j then .ok (.int (i % j)) S else .bad
  | .FloorDiv, .int i, .int j => if 0 < j ∧ j.natAbs.log2 < 9000 then .ok (.int (i / j)) S else .bad
  | .Pow, .int i, .int j => if 0 ≤ j ∧ j ≤ 1000000 ∧ i.natAbs < 2 ^ 64 then .ok (.int (i ^ j.toNat)) S else .bad
  | .Add, .str x, .str y => if x.length + y.length ≤ lim then .ok (.str (x ++ y)) S else .bad
  | .Mult, .str x, .int j => if 0 ≤ j ∧ j ≤ 1000 ∧ x.length ≤ 1000 then .ok (.str (Txt.mul x j)) S else .bad
  | .Add, a, b => match lview S a, lview S b with
    | some xs, some ys => if xs.length + ys.length ≤ lim then mk m (xs ++ ys) S else .bad
    | _, _ => .bad
  | .Mult, a, .int j => match lview S a with
    | some xs => if 0 ≤ j ∧ j ≤ 1000 ∧ xs.length ≤ 1000 then mk m (List.replicate j.toNat xs).flatten S else .bad
    | none => .bad
  | _, _, _ => .bad
end Itp

namespace Itp
open PySem PySem.Spec L2
section
variable {X : Cx}
theorem RepVs.rep {k : Kg} {W : Wd} {xs : List D} {vs : List V} (h : RepVs k W xs vs) : ∀ n : Nat, RepVs k W (List.replicate n xs).flatten (List.replicate n vs).flatten
  | 0 => .nil
  | n + 1 => by
    rw [List.replicate_succ, List.replicate_succ, List.flatten_cons, List.flatten_cons]
    exact h.append (RepVs.rep h n)
theorem op_mul_str : OpR X (binaryOp .Mult) (fun x y H Q => ∃ z j, x = .str z ∧ y = .int j ∧ MulOk z j ∧ Q (.str (Txt.mul z j)) H) := by
  intro pins s σ H x y v u Q I rx ry h
  obtain ⟨z, j, rfl, rfl, ok, q⟩ := h
  obtain ⟨t, rfl⟩ := rx
  obtain ⟨t', rfl⟩ := ry
  exact SB.mul ok fun t' k => ⟨.str _, H, I.tok _, ⟨_, rfl⟩, q⟩
theorem mulOk {x : Str} {j : Int} (h0 : 0 ≤ j) (h1 : j ≤ 1000) (h2 : x.length ≤ 1000) : MulOk x j := by
  have hb : x.length * j.toNat ≤ 1000000 := Nat.le_trans (Nat.mul_le_mul h2 (show j.toNat ≤ 1000 by omega)) (by decide)
  refine ⟨?_, fun hj _ => ?_, fun _ _ => ?_⟩
  · simp
    constructor
    · exact Int.le_trans (by decide) h0
    · exact Int.lt_of_le_of_lt h1 (by decide)
  · have hp : 0 < j := by omega
    have : (1000 : Int) ≤ (2 ^ 63 - 1) / j := Int.le_trans (show (1000 : Int) ≤ (2 ^ 63 - 1) / 1000 by decide) (by
      refine (Int.le_ediv_iff_mul_le hp).mpr ?_
      have e1 : ((2 ^ 63 - 1) / 1000 : Int) * j ≤ ((2 ^ 63 - 1) / 1000) * 1000 := Int.mul_le_mul_of_nonneg_left h1 (by decide)
      exact Int.le_trans e1 (by decide))
    omega
  · have : x.length * j.toNat ≤ sizeLine := Nat.le_trans hb (by rw [sizeLine_eq]; decide)
    unfold Builtin.Str.tooLong
    simp
    omega
theorem op_bin (m : Bool) (o : Operator) : OpR X (binaryOp o) (rD2 (kg X) (binop m o)) := by
  intro pins s σ H x y v u Q I rx ry h
  obtain ⟨W, S, a, b, ra, rb, hh, q⟩ := h
  unfold binop at q
  split at q
  · cases ra; cases rb
    exact op_add pins s σ H _ _ v u Q I rx ry ⟨_, _, rfl, rfl, q.here hh (.int _)⟩
  · cases ra; cases rb
    exact op_sub pins s σ H _ _ v u Q I rx ry ⟨_, _, rfl, rfl, q.here hh (.int _)⟩
  · cases ra; cases rb
    split at q
    · rename_i hc
      exact op_mulW pins s σ H _ _ v u Q I rx ry ⟨_, _, rfl, rfl, hc, q.here hh (.int _)⟩
    · exact q.elim
  · cases ra; cases rb
    split at q
    · rename_i hc
      exact op_mod pins s σ H _ _ v u Q I rx ry ⟨_, _, rfl, rfl, hc, q.here hh (.int _)⟩
    · exact q.elim
  · cases ra; cases rb
    split at q
    · rename_i hc
      exact op_fdivW pins s σ H _ _ v u Q I rx ry ⟨_, _, rfl, rfl, hc, q.here hh (.int _)⟩
    · exact q.elim
  · cases ra; cases rb
    split at q
    · rename_i hc
      exact op_pow pins s σ H _ _ v u Q I rx ry ⟨_, _, rfl, rfl, hc, q.here hh (.int _)⟩
    · exact q.elim
  · cases ra; cases rb
    split at q
    · rename_i hc
      exact op_add_str pins s σ H _ _ v u Q I rx ry ⟨_, _, rfl, rfl, lim_line hc, q.here hh (.str _)⟩
    · exact q.elim
  · cases ra; cases rb
    split at q
    · rename_i hc
      exact op_mul_str pins s σ H _ _ v u Q I rx ry ⟨_, _, rfl, rfl, mulOk hc.1 hc.2.1 hc.2.2, q.here hh (.str _)⟩
    · exact q.elim
  · split at q
    · rename_i xs ys e1 e2
      split at q
      · rename_i hc
        obtain ⟨p1, vs, rfl, h1, r1⟩ := lview_ok hh ra e1
        obtain ⟨p2, ws, rfl, h2, r2⟩ := lview_ok hh rb e2
        exact op_cat pins s σ H _ _ v u Q I rx ry ⟨_, _, _, _, rfl, rfl, h1, h2, by rw [r1.length, r2.length]; exact lim_line hc, mk_ok hh (r1.append r2) q⟩
      · exact q.elim
    · exact q.elim
  · cases rb
    split at q
    · rename_i xs e1
      split at q
      · rename_i hc
        obtain ⟨p1, vs, rfl, h1, r1⟩ := lview_ok hh ra e1
        refine op_rep pins s σ H _ _ v u Q I rx ry ⟨_, _, _, rfl, rfl, h1, by have := hc.1; omega, by have := hc.2.1; omega, ?_, mk_ok hh (r1.rep _) q⟩
        rw [r1.length]
        exact Nat.le_trans (Nat.mul_le_mul hc.2.2 (show Int.toNat _ ≤ 1000 by have := hc.2.1; omega)) (by rw [sizeLine_eq]; decide)
      · exact q.elim
    · exact q.elim
  · exact q.elim
end
end Itp

namespace Itp
open PySem PySem.Spec L2
/-! ### truth -/
def truth (S : Sto) : D → Option Bool
  | .non => some false
  | .bl b => some b
  | .int i => some (i != 0)
  | .str x => if x.length ≤ lim then some ((x.length : Int) != 0) else none
  | .tup xs => some (!xs.isEmpty)
  | d => (lview S d).map fun xs => !xs.isEmpty
theorem RepVs.isEmpty {k : Kg} {W : Wd} {ds : List D} {vs : List V} (r : RepVs k W ds vs) : vs.isEmpty = ds.isEmpty := by
  cases r <;> rfl
section
variable {k : Kg} {W : Wd} {S : Sto} {H : Hp}
theorem truth_ok (h : RepH k W S H) {d : D} {v : V} (r : RepV k W d v) {b : Bool} (e : truth S d = some b) : TruV k.K v H b := by
  have viaL : ∀ {d : D} {v : V}, RepV k W d v → (lview S d).map (fun xs => !xs.isEmpty) = some b → TruV k.K v H b := by
    intro d v r e
    cases q : lview S d with
    | none => rw [q] at e; cases e
    | some xs =>
      rw [q] at e
      cases e
      obtain ⟨a, vs, rfl, h1, r1⟩ := lview_ok h r q
      exact .inl ⟨vs, .inl (.inl h1), by rw [r1.isEmpty]⟩
  have r' := r
  cases r with
  | non => cases e; rfl
  | bl b => cases e; rfl
  | int i => cases e; rfl
  | str x =>
    have e : (if x.length ≤ lim then some ((x.length : Int) != 0) else none) = some b := e
    split at e
    · rename_i hc
      cases e
      exact ⟨lim_line hc, rfl⟩
    · cases e
  | tup h1 r1 =>
    cases e
    exact .inr (.inl ⟨_, SqT.real h h1, by rw [r1.isEmpty]⟩)
  | _ => exact viaL r' e
end
/-! ### -x, not x -/
def unop (o : UnaryOp) (a : D) (S : Sto) : R D := match o, a with
  | .USub, .int i => .ok (.int (-i)) S
  | _, _ => .bad
section
variable {X : Cx}
theorem op_un (o : UnaryOp) : UnR X (unaryOp o) (rD1 (kg X) (unop o)) := by
  intro pins s σ H x v Q I rx h
  obtain ⟨W, S, a, ra, hh, q⟩ := h
  unfold unop at q
  split at q
  · cases ra
    exact un_neg pins s σ H _ v Q I rx ⟨_, rfl, q.here hh (.int _)⟩
  · exact q.elim
end
/-! ### comparisons -/
def eqD (S : Sto) (a b : D) : Option Bool := match a, b with
  | .int i, .int j => some (decide (i = j))
  | .str x, .str y => some (decide (x = y))
  | .bl x, .bl y => some (decide (x = y))
  | a, b => match (view S a).toP, (view S b).toP with
    | some p, some q => if (SeqAt.shaped p && SeqAt.shaped q) = true then some (PyData.eqv p q) else none
    | _, _ => none
def flatD : D → Bool
  | .non => true
  | .bl _ => true
  | .int _ => true
  | .str _ => true
  | _ => false
def eqF : D → D → Bool
  | .non, .non => true
  | .bl a, .bl b => a == b
  | .bl a, .int b => (if a then 1 else 0) == b
  | .int a, .bl b => a == (if b then 1 else 0)
  | .int a, .int b => a == b
  | .str a, .str b => a == b
  | _, _ => false
def inD (S : Sto) (a b : D) : Option Bool := match a, b with
  | .str x, .str y => match x.cps.toList with
    | [c] => some (decide (c ∈ y.cps.toList))
    | _ => some (!(Builtin.Str.occurrences y x 0 y.length 1).isEmpty)
  | a, b => match sview S b with
    | some xs => if (flatD a && xs.all flatD) = true then some (xs.any fun y => eqF y a) else none
    | none => none
def cmpB (o : CmpOp) (a b : D) (S : Sto) : Option Bool := match o, a, b with
  | .Eq, a, b => eqD S a b
  | .NotEq, a, b => (eqD S a b).map (!·)
  | .Lt, .int i, .int j => some (decide (i < j))
  | .LtE, .int i, .int j => some (decide (i ≤ j))
  | .Gt, .int i, .int j => some (decide (j < i))
  | .GtE, .int i, .int j => some (decide (j ≤ i))
  | .Lt, .str x, .str y => some (decide (x.cps.toList < y.cps.toList))
  | .Is, a, .non => match a with
    | .non => some true
    | .bl _ => some false
    | .int _ => some false
    | .str _ => some false
    | .tup _ => some false
    | .lst _ => some false
    | .dct _ _ => some false
    | .ref _ => some false
    | _ => none
  | .IsNot, a, .non => match a with
    | .non => some false
    | .bl _ => some true
    | .int _ => some true
    | .str _ => some true
    | .tup _ => some true
    | .lst _ => some true
    | .dct _ _ => some true
    | .ref _ => some true
    | _ => none
  | .In, a, b => inD S a b
  | .NotIn, a, b => (inD S a b).map (!·)
  | _, _, _ => none
def cmpop (o : CmpOp) (a b : D) (S : Sto) : R D := match cmpB o a b S with
  | some c => .ok (.bl c) S
  | none => .bad
theorem flat_rep {k : Kg} {W : Wd} {d : D} {v : V} (r : RepV k W d v) (f : flatD d = true) : flatV v = true := by
  cases r <;> first | rfl | cases f
theorem flats_rep {k : Kg} {W : Wd} : ∀ {ds : List D} {vs : List V}, RepVs k W ds vs → ds.all flatD = true → vs.all flatV = true
  | _, _, .nil, _ => rfl
  | _, _, .cons h r, f => by
    simp only [List.all_cons, Bool.and_eq_true] at f ⊢
    exact ⟨flat_rep h f.1, flats_rep r f.2⟩
theorem eqF_rep {k : Kg} {W : Wd} {d e : D} {v w : V} (r : RepV k W d v) (q : RepV k W e w) (f : flatD d = true) (g : flatD e = true) : eqV v w = eqF d e := by
  cases r <;> first | (cases f; done) | (cases q <;> first | rfl | (cases g; done))
theorem any_rep {k : Kg} {W : Wd} {e : D} {w : V} (q : RepV k W e w) (g : flatD e = true) : ∀ {ds : List D} {vs : List V}, RepVs k W ds vs → ds.all flatD = true → inV w vs = ds.any fun y => eqF y e
  | _, _, .nil, _ => rfl
  | _, _, .cons h r, f => by
    simp only [List.all_cons, Bool.and_eq_true] at f
    have ih := any_rep q g r f.2
    show (_ :: _).any (fun y => eqV y w) = _
    rw [List.any_cons, List.any_cons, eqF_rep h q f.1 g]
    show (_ || inV w _) = _
    rw [ih]
theorem str_one {x : Str} {c : Nat} (h : x.cps.toList = [c]) : x = ⟨#[c]⟩ := by
  obtain ⟨a⟩ := x
  have h : a.toList = [c] := h
  have : a = #[c] := by
    apply Array.ext'
    simpa using h
  rw [this]
section
variable {X : Cx} {W : Wd} {S : Sto} {a b : D} {c : Bool} {pins : List (Addr × Obj)} {s : Shared} {σ : St} {H : Hp} {x y : V} {v u : Value} {Q : VK}
theorem eq_ok (hu : X.A.units + 64 < cLine) (I : Inv X pins σ H s) (rx : RelV x v) (ry : RelV y u) (hh : RepH (kg X) W S H) (ra : RepV (kg X) W a x) (rb : RepV (kg X) W b y) (e : eqD S a b = some c) (q : Q (.bl c) H) :
    wpAny (model X.prog X.w) X.A (compareOp .Eq v u) (EP X pins σ Q) X.xe s := by
  unfold eqD at e
  split at e
  · cases ra; cases rb; cases e
    refine op_eq pins s σ H _ _ v u Q I rx ry ⟨rfl, ?_⟩
    have z : ∀ a b, decide (V.int a = V.int b) = decide (a = b) := fun a b => by simp
    rw [z]
    exact q
  · cases ra; cases rb; cases e
    refine op_eq pins s σ H _ _ v u Q I rx ry ⟨rfl, ?_⟩
    have z : ∀ a b, decide (V.str a = V.str b) = decide (a = b) := fun a b => by simp
    rw [z]
    exact q
  · cases ra; cases rb; cases e
    refine op_eq pins s σ H _ _ v u Q I rx ry ⟨rfl, ?_⟩
    have z : ∀ a b, decide (V.bl a = V.bl b) = decide (a = b) := fun a b => by simp
    rw [z]
    exact q
  · split at e
    · rename_i p q' e1 e2
      split at e
      · rename_i hs
        cases e
        rw [Bool.and_eq_true] at hs
        exact op_eqD hu pins s σ H _ _ v u Q I rx ry ⟨p, q', view_dp hh ra e1, view_dp hh rb e2, hs.1, hs.2, q⟩
      · cases e
    · cases e
theorem ne_ok (hu : X.A.units + 64 < cLine) (I : Inv X pins σ H s) (rx : RelV x v) (ry : RelV y u) (hh : RepH (kg X) W S H) (ra : RepV (kg X) W a x) (rb : RepV (kg X) W b y) (e : eqD S a b = some c) (q : Q (.bl (!c)) H) :
    wpAny (model X.prog X.w) X.A (compareOp .NotEq v u) (EP X pins σ Q) X.xe s := by
  unfold eqD at e
  split at e
  · cases ra; cases rb; cases e
    refine op_ne pins s σ H _ _ v u Q I rx ry ⟨rfl, ?_⟩
    have z : ∀ a b, decide (V.int a = V.int b) = decide (a = b) := fun a b => by simp
    rw [z]
    exact q
  · cases ra; cases rb; cases e
    refine op_ne pins s σ H _ _ v u Q I rx ry ⟨rfl, ?_⟩
    have z : ∀ a b, decide (V.str a = V.str b) = decide (a = b) := fun a b => by simp
    rw [z]
    exact q
  · cases ra; cases rb; cases e
    refine op_ne pins s σ H _ _ v u Q I rx ry ⟨rfl, ?_⟩
    have z : ∀ a b, decide (V.bl a = V.bl b) = decide (a = b) := fun a b => by simp
    rw [z]
    exact q
  · split at e
    · rename_i p q' e1 e2
      split at e
      · rename_i hs
        cases e
        rw [Bool.and_eq_true] at hs
        exact op_neD hu pins s σ H _ _ v u Q I rx ry ⟨p, q', view_dp hh ra e1, view_dp hh rb e2, hs.1, hs.2, q⟩
      · cases e
    · cases e
theorem in_ok (I : Inv X pins σ H s) (rx : RelV x v) (ry : RelV y u) (hh : RepH (kg X) W S H) (ra : RepV (kg X) W a x) (rb : RepV (kg X) W b y) (e : inD S a b = some c) (q : Q (.bl c) H) :
    wpAny (model X.prog X.w) X.A (compareOp .In v u) (EP X pins σ Q) X.xe s := by
  unfold inD at e
  split at e
  · cases ra; cases rb
    split at e
    · rename_i c' hc
      cases e
      exact op_in_sign pins s σ H _ _ v u Q I rx ry ⟨c', _, by rw [str_one hc], rfl, q⟩
    · cases e
      exact op_in_str pins s σ H _ _ v u Q I rx ry ⟨_, _, rfl, rfl, q⟩
  · split at e
    · rename_i xs hxs
      split at e
      · rename_i hf
        cases e
        rw [Bool.and_eq_true] at hf
        obtain ⟨p, vs, rfl, h1, r1⟩ := sview_ok hh rb hxs
        refine op_in_seq pins s σ H _ _ v u Q I rx ry ⟨p, vs, rfl, h1, flat_rep ra hf.1, flats_rep r1 hf.2, ?_⟩
        show Q (.bl (inV x vs)) H
        rw [any_rep ra hf.1 r1 hf.2]
        exact q
      · cases e
    · cases e
theorem notIn_ok (I : Inv X pins σ H s) (rx : RelV x v) (ry : RelV y u) (hh : RepH (kg X) W S H) (ra : RepV (kg X) W a x) (rb : RepV (kg X) W b y) (e : inD S a b = some c) (q : Q (.bl (!c)) H) :
    wpAny (model X.prog X.w) X.A (compareOp .NotIn v u) (EP X pins σ Q) X.xe s := by
  unfold inD at e
  split at e
  · cases ra; cases rb
    split at e
    · rename_i c' hc
      cases e
      exact op_notIn_sign pins s σ H _ _ v u Q I rx ry ⟨c', _, by rw [str_one hc], rfl, q⟩
    · cases e
      exact op_notIn_str pins s σ H _ _ v u Q I rx ry ⟨_, _, rfl, rfl, q⟩
  · split at e
    · rename_i xs hxs
      split at e
      · rename_i hf
        cases e
        rw [Bool.and_eq_true] at hf
        obtain ⟨p, vs, rfl, h1, r1⟩ := sview_ok hh rb hxs
        refine op_notIn_seq pins s σ H _ _ v u Q I rx ry ⟨p, vs, rfl, h1, flat_rep ra hf.1, flats_rep r1 hf.2, ?_⟩
        show Q (.bl (!inV x vs)) H
        rw [any_rep ra hf.1 r1 hf.2]
        exact q
      · cases e
    · cases e
theorem map_not {o : Option Bool} {c : Bool} (e : o.map (!·) = some c) : o = some (!c) := by
  cases o with
  | none => cases e
  | some b => cases e; simp
theorem op_cmp (hu : X.A.units + 64 < cLine) (o : CmpOp) : OpR X (compareOp o) (rD2 (kg X) (cmpop o)) := by
  intro pins s σ H x y v u Q I rx ry h
  obtain ⟨W, S, a, b, ra, rb, hh, q⟩ := h
  unfold cmpop at q
  split at q
  · rename_i c e
    have q := q.here hh (.bl c)
    unfold cmpB at e
    split at e
    · exact eq_ok hu I rx ry hh ra rb e q
    · exact ne_ok hu I rx ry hh ra rb (map_not e) (by rw [Bool.not_not]; exact q)
    · cases ra; cases rb; cases e
      exact op_lt pins s σ H _ _ v u Q I rx ry ⟨_, _, rfl, rfl, q⟩
    · cases ra; cases rb; cases e
      exact op_le pins s σ H _ _ v u Q I rx ry ⟨_, _, rfl, rfl, q⟩
    · cases ra; cases rb; cases e
      exact op_gt pins s σ H _ _ v u Q I rx ry ⟨_, _, rfl, rfl, q⟩
    · cases ra; cases rb; cases e
      exact op_ge pins s σ H _ _ v u Q I rx ry ⟨_, _, rfl, rfl, q⟩
    · cases ra; cases rb; cases e
      exact op_lt_str pins s σ H _ _ v u Q I rx ry ⟨_, _, rfl, rfl, q⟩
    · cases rb
      refine op_isN pins s σ H _ _ v u Q I rx ry ⟨rfl, ?_⟩
      have z : decide (x = V.non) = c := by
        cases ra <;> first | (cases e; done) | (cases e; rfl)
      rw [z]
      exact q
    · cases rb
      refine op_notN pins s σ H _ _ v u Q I rx ry ⟨rfl, ?_⟩
      have z : (!decide (x = V.non)) = c := by
        cases ra <;> first | (cases e; done) | (cases e; rfl)
      rw [z]
      exact q
    · exact in_ok I rx ry hh ra rb e q
    · exact notIn_ok I rx ry hh ra rb (map_not e) (by rw [Bool.not_not]; exact q)
    · cases e
  · exact q.elim
end
end Itp

namespace Itp
open PySem PySem.Spec L2
/-! ### built-in functions -/
inductive Bi where
  | abs | all | any | int | isin | len | list | tuple | max | min | repr | str | bool | sum
def Bi.name : Bi → Str
  | .abs => "abs"
  | .all => "all"
  | .any => "any"
  | .int => "int"
  | .isin => "isinstance"
  | .len => "len"
  | .list => "list"
  | .tuple => "tuple"
  | .max => "max"
  | .min => "min"
  | .repr => "repr"
  | .str => "str"
  | .bool => "bool"
  | .sum => "sum"
/-- the value that the name stands for -/
def Bi.val : Bi → Value
  | .abs => .builtin "abs"
  | .all => .builtin "all"
  | .any => .builtin "any"
  | .int => .type "int"
  | .isin => .builtin "isinstance"
  | .len => .builtin "len"
  | .list => .type "list"
  | .tuple => .type "tuple"
  | .max => .builtin "max"
  | .min => .builtin "min"
  | .repr => .builtin "repr"
  | .str => .type "str"
  | .bool => .type "bool"
  | .sum => .builtin "sum"
theorem Bi.boot (f : Bi) : bootBuiltins f.name = some f.val := by
  cases f
  · exact PyProof.Rows.boot_abs
  · exact PyProof.Rows.boot_all
  · exact PyProof.Rows.boot_any
  · exact PyProof.Rows.boot_int
  · exact PyProof.Rows.boot_isinstance
  · exact PySem.boot_len
  · exact PyProof.Rows.boot_list
  · exact PyProof.Rows.boot_tuple
  · exact PyProof.Rows.boot_max
  · exact PyProof.Rows.boot_min
  · exact PyProof.Rows.boot_repr
  · exact PyProof.Rows.boot_str
  · exact PyProof.Rows.boot_bool
  · exact PyProof.Rows.boot_sum
theorem Bi.noName (f : Bi) : f.name ≠ "__name__" := by
  cases f <;> decide +kernel
theorem Bi.noDebug (f : Bi) : (f.name == ("__debug__" : Str)) = false := by
  cases f <;> decide +kernel
def tyOf (S : Sto) : D → Option Tn
  | .non => some .non
  | .bl _ => some .bool
  | .int _ => some .int
  | .str _ => some .str
  | .tup _ => some .tuple
  | .dct _ _ => some .dict
  | d => (lview S d).map fun _ => .list
def isiB (a b : Tn) : Bool := decide (a = b) || (decide (a = .bool) && decide (b = .int))
theorem isiB_ok (a b : Tn) : kitB (tnS a) (tnS b) = some (isiB a b) := by
  cases a <;> cases b <;> decide +kernel
section
variable {k : Kg} {W : Wd} {S : Sto} {H : Hp}
theorem tyOf_ok (h : RepH k W S H) {d : D} {v : V} (r : RepV k W d v) {t : Tn} (e : tyOf S d = some t) : TyX k.K H v (.type (tnS t)) := by
  have viaL : ∀ {d : D} {v : V}, RepV k W d v → (lview S d).map (fun _ => Tn.list) = some t → TyX k.K H v (.type (tnS t)) := by
    intro d v r e
    cases q : lview S d with
    | none => rw [q] at e; cases e
    | some xs =>
      rw [q] at e
      cases e
      obtain ⟨a, vs, rfl, h1, r1⟩ := lview_ok h r q
      exact .base (.lst h1)
  have r' := r
  cases r with
  | non => cases e; exact .base .non
  | bl b => cases e; exact .base (.bl b)
  | int i => cases e; exact .base (.int i)
  | str x => cases e; exact .base (.str x)
  | tup h1 r1 =>
    cases e
    rcases SqT.real h h1 with (h2 | ⟨o, h2⟩) | ⟨o, its, n, h2, h3, _⟩
    · exact .base (.tup h2)
    · exact .fTuple h2
    · exact .kTuple h2 h3
  | dK h1 _ _ => cases e; exact .base (.dK (h.fr _ _ h1))
  | dT h1 _ _ => cases e; exact .base (.dT (h.fr _ _ h1))
  | _ => exact viaL r' e
end
/-- repr, as the library has it -/
def reprD (S : Sto) (d : D) : Option Str := match (view S d).toP with
  | some p => if p.showable = true ∧ p.depth ≤ 60 ∧ p.shown.length ≤ lim then some p.shown else none
  | none => none
def bools : List D → Option (List Bool)
  | [] => some []
  | .bl b :: r => (bools r).map (b :: ·)
  | _ :: _ => none
def intsD : List D → Option (List Int)
  | [] => some []
  | .int b :: r => (intsD r).map (b :: ·)
  | _ :: _ => none
def lenD (S : Sto) : D → Option Nat
  | .str x => if x.length ≤ lim then some x.length else none
  | .scr ns => some ns.length
  | d => (sview S d).map List.length
def biF (m : Bool) (f : Bi) (as : List D) (S : Sto) : R D := match f, as with
  | .abs, [.int i] => .ok (.int (if i < 0 then -i else i)) S
  | .int, [.int i] => .ok (.int i) S
  | .int, [.bl b] => .ok (.int (if b then 1 else 0)) S
  | .bool, [.int i] => .ok (.bl (i != 0)) S
  | .bool, [.bl b] => .ok (.bl b) S
  | .str, [.int i] => if i.natAbs.log2 < 1920 then .ok (.str (toString i)) S else .bad
  | .str, [.str x] => .ok (.str x) S
  | .max, [.int i, .int j] => .ok (.int (if j > i then j else i)) S
  | .min, [.int i, .int j] => .ok (.int (if j < i then j else i)) S
  | .isin, [d, .ty t] => match tyOf S d with
    | some u => .ok (.bl (isiB u t)) S
    | none => .bad
  | .len, [d] => match lenD S d with
    | some n => .ok (.int n) S
    | none => .bad
  | .list, [d] => match sview S d with
    | some xs => mk m xs S
    | none => .bad
  | .tuple, [.tup xs] => .ok (.tup xs) S
  | .tuple, [d] => match lview S d with
    | some xs => .ok (.tup xs) S
    | none => .bad
  | .all, [d] => match (lview S d).bind bools with
    | some bs => .ok (.bl (bs.all id)) S
    | none => .bad
  | .any, [d] => match (lview S d).bind bools with
    | some bs => .ok (.bl (bs.any id)) S
    | none => .bad
  | .sum, [d] => match (lview S d).bind intsD with
    | some ns => .ok (.int ns.sum) S
    | none => .bad
  | .repr, [d] => match reprD S d with
    | some x => .ok (.str x) S
    | none => .bad
  | _, _ => .bad
section
variable {k : Kg} {W : Wd}
theorem RepVs.one {a : D} {vs : List V} (r : RepVs k W [a] vs) : ∃ v, vs = [v] ∧ RepV k W a v := by
  cases r with
  | cons h r => cases r; exact ⟨_, rfl, h⟩
theorem RepVs.two {a b : D} {vs : List V} (r : RepVs k W [a, b] vs) : ∃ v w, vs = [v, w] ∧ RepV k W a v ∧ RepV k W b w := by
  cases r with
  | cons h r => obtain ⟨w, rfl, h2⟩ := r.one; exact ⟨_, w, rfl, h, h2⟩
theorem bools_ok : ∀ {ds : List D} {vs : List V} {bs : List Bool}, RepVs k W ds vs → bools ds = some bs → vs = bs.map V.bl
  | _, _, _, .nil, e => by cases e; rfl
  | _ :: ds, _, bs, .cons h r, e => by
    cases h with
    | bl b =>
      have e : (bools ds).map (b :: ·) = some bs := e
      cases q : bools ds with
      | none => rw [q] at e; cases e
      | some cs => rw [q] at e; cases e; rw [bools_ok r q]; rfl
    | _ => cases e
theorem intsD_ok : ∀ {ds : List D} {vs : List V} {bs : List Int}, RepVs k W ds vs → intsD ds = some bs → vs = bs.map V.int
  | _, _, _, .nil, e => by cases e; rfl
  | _ :: ds, _, bs, .cons h r, e => by
    cases h with
    | int b =>
      have e : (intsD ds).map (b :: ·) = some bs := e
      cases q : intsD ds with
      | none => rw [q] at e; cases e
      | some cs => rw [q] at e; cases e; rw [intsD_ok r q]; rfl
    | _ => cases e
end
mutual
theorem dp_noDict {K : PySem.W.Frag} {H : Hp} : ∀ {v : V} {p : PyData}, Dp K H v p → p.hasDict = false
  | _, _, .non => by simp only [PyData.hasDict]
  | _, _, .bl _ => by simp only [PyData.hasDict]
  | _, _, .int _ => by simp only [PyData.hasDict]
  | _, _, .str _ => by simp only [PyData.hasDict]
  | _, _, .lst _ h => by simp only [PyData.hasDict]; exact dps_noDict h
  | _, _, .tup _ h => by simp only [PyData.hasDict]; exact dps_noDict h
theorem dps_noDict {K : PySem.W.Frag} {H : Hp} : ∀ {vs : List V} {ps : List PyData}, DpAll K H vs ps → PyData.hasDictAll ps = false
  | _, _, .nil => by simp only [PyData.hasDictAll]
  | _, _, .cons h r => by simp only [PyData.hasDictAll, dp_noDict h, dps_noDict r, Bool.or_self]
end
section
variable {X : Cx} {W : Wd} {S : Sto}
theorem call_reprD (hg : X.A.guards = some []) (hu : X.A.units + 64 < cLine) : CallR X (.builtin "repr") (fun xs H Q => ∃ x p, xs = [x] ∧ Dp X.K H x p ∧ p.showable = true ∧ p.depth ≤ 60 ∧ p.shown.length ≤ sizeLine ∧ Q (.str p.shown) H) := by
  intro pins s σ H xs us Q I r h
  obtain ⟨x, p, rfl, dp, h1, h2, h3, q⟩ := h
  obtain ⟨u, rfl, ru⟩ := vals1 r
  obtain ⟨as, rd⟩ := Dp.reads I p x u dp ru
  have nod := dp_noDict dp
  cases dp with
  | non =>
    obtain rfl : u = Value.none := ru
    exact PySem.P.repr_of_none ⟨.str _, H, I.tok _, ⟨_, rfl⟩, q⟩
  | bl b =>
    obtain rfl : u = Value.bool b := ru
    exact PySem.P.repr_of_bool ⟨.str _, H, I.tok _, ⟨_, rfl⟩, q⟩
  | int i =>
    obtain ⟨t, rfl⟩ := ru
    exact PySem.P.repr_of_int (of_decide_eq_true h1) ⟨.str _, H, I.tok _, ⟨_, rfl⟩, q⟩
  | str z =>
    obtain ⟨t, rfl⟩ := ru
    exact PySem.P.repr_of_str ⟨.str _, H, I.tok _, ⟨_, rfl⟩, q⟩ h3
  | lst e1 e2 =>
    obtain rfl : u = Value.ref _ := ru
    refine repr_of_reads' rd h1 (PyData.noDict_hsm nod) hg (by omega) (fun b o e => e) (fun h' u tk hk => ?_) h3
    exact ⟨.str _, H, I.kept hk, ⟨_, rfl⟩, q⟩
  | tup e1 e2 =>
    obtain rfl : u = Value.ref _ := ru
    refine repr_of_reads' rd h1 (PyData.noDict_hsm nod) hg (by omega) (fun b o e => e) (fun h' u tk hk => ?_) h3
    exact ⟨.str _, H, I.kept hk, ⟨_, rfl⟩, q⟩
theorem call_str_str1 : CallR X (.type "str") (fun xs H Q => ∃ a, xs = [.str a] ∧ Q (.str a) H) := by
  intro pins s σ H xs us Q I r h
  obtain ⟨a, rfl, q⟩ := h
  obtain ⟨u, rfl, t, rfl⟩ := vals1 r
  exact PySem.P.str_of_str ⟨.str a, H, I, ⟨t, rfl⟩, q⟩
theorem call_bi (hc : X.calm = true) (hg : X.A.guards = some []) (hu : X.A.units + 64 < cLine) (m : Bool) (f : Bi) : CallR X f.val (rDL (kg X) (biF m f)) := by
  intro pins s σ H xs us Q I rx h
  obtain ⟨W, S, as, ra, hh, q⟩ := h
  unfold biF at q
  split at q
  · obtain ⟨v, rfl, r⟩ := ra.one
    cases r
    exact call_abs pins s σ H _ us Q I rx ⟨_, rfl, q.here hh (.int _)⟩
  · obtain ⟨v, rfl, r⟩ := ra.one
    cases r
    exact call_int1 pins s σ H _ us Q I rx (.inl ⟨_, rfl, q.here hh (.int _)⟩)
  · obtain ⟨v, rfl, r⟩ := ra.one
    cases r
    exact call_int1 pins s σ H _ us Q I rx (.inr ⟨_, rfl, q.here hh (.int _)⟩)
  · obtain ⟨v, rfl, r⟩ := ra.one
    cases r
    exact call_bool1 pins s σ H _ us Q I rx (.inl ⟨_, rfl, q.here hh (.bl _)⟩)
  · obtain ⟨v, rfl, r⟩ := ra.one
    cases r
    exact call_bool1 pins s σ H _ us Q I rx (.inr ⟨_, rfl, q.here hh (.bl _)⟩)
  · obtain ⟨v, rfl, r⟩ := ra.one
    cases r
    split at q
    · rename_i hz
      exact call_str_int pins s σ H _ us Q I rx ⟨_, rfl, hz, q.here hh (.str _)⟩
    · exact q.elim
  · obtain ⟨v, rfl, r⟩ := ra.one
    cases r
    exact call_str_str1 pins s σ H _ us Q I rx ⟨_, rfl, q.here hh (.str _)⟩
  · obtain ⟨v, w, rfl, r, r'⟩ := ra.two
    cases r; cases r'
    exact call_max2 hc pins s σ H _ us Q I rx ⟨_, _, rfl, q.here hh (.int _)⟩
  · obtain ⟨v, w, rfl, r, r'⟩ := ra.two
    cases r; cases r'
    exact call_min2 hc pins s σ H _ us Q I rx ⟨_, _, rfl, q.here hh (.int _)⟩
  · obtain ⟨v, w, rfl, r, r'⟩ := ra.two
    cases r'
    split at q
    · rename_i t u e
      exact call_isi pins s σ H _ us Q I rx ⟨v, _, _, _, _, rfl, .ty _, tyOf_ok hh r e, kit_ty (isiB_ok _ _), q.here hh (.bl _)⟩
    · exact q.elim
  · obtain ⟨v, rfl, r⟩ := ra.one
    split at q
    · rename_i d n e
      refine call_len pins s σ H _ us Q I rx ⟨v, n, rfl, ?_, q.here hh (.int _)⟩
      have viaS : ∀ {d : D}, RepV (kg X) W d v → (sview S d).map List.length = some n → LenV X.K v H n := by
        intro d r e
        cases z : sview S d with
        | none => rw [z] at e; cases e
        | some xs =>
          rw [z] at e
          cases e
          obtain ⟨a, vs, rfl, h1, r1⟩ := sview_ok hh r z
          rcases h1 with h1 | h1
          · exact .inl ⟨vs, h1, r1.length.symm⟩
          · exact .inr ⟨vs, h1, r1.length.symm⟩
      have r' := r
      cases r with
      | str x =>
        have e : (if x.length ≤ lim then some x.length else none) = some n := e
        split at e
        · rename_i hl
          cases e
          exact ⟨lim_line hl, rfl⟩
        · cases e
      | scr h1 =>
        cases e
        exact .inl ⟨_, SqL.real hh h1, by rw [List.length_map]⟩
      | _ => exact viaS r' e
    · exact q.elim
  · obtain ⟨v, rfl, r⟩ := ra.one
    split at q
    · rename_i d xs e
      obtain ⟨a, vs, rfl, h1, r1⟩ := sview_ok hh r e
      exact call_list_of pins s σ H _ us Q I rx ⟨a, vs, rfl, h1, mk_ok hh r1 q⟩
    · exact q.elim
  · obtain ⟨v, rfl, r⟩ := ra.one
    cases r with
    | tup h1 r1 => exact call_tuple_of pins s σ H _ us Q I rx ⟨_, _, rfl, .inr ⟨SqT.real hh h1, q.here hh (.tup h1 r1)⟩⟩
  · obtain ⟨v, rfl, r⟩ := ra.one
    split at q
    · rename_i d xs _ e
      obtain ⟨a, vs, rfl, h1, r1⟩ := lview_ok hh r e
      exact call_tuple_of pins s σ H _ us Q I rx ⟨a, vs, rfl, .inl ⟨.inl (.inl h1), mkT_ok hh r1 q⟩⟩
    · exact q.elim
  · obtain ⟨v, rfl, r⟩ := ra.one
    split at q
    · rename_i d bs e
      obtain ⟨xs, e1, e2⟩ := Option.bind_eq_some_iff.mp e
      obtain ⟨a, vs, rfl, h1, r1⟩ := lview_ok hh r e1
      obtain rfl := bools_ok r1 e2
      exact cr_all hc pins s σ H _ us Q I rx ⟨a, bs, rfl, .inl (.inl h1), q.here hh (.bl _)⟩
    · exact q.elim
  · obtain ⟨v, rfl, r⟩ := ra.one
    split at q
    · rename_i d bs e
      obtain ⟨xs, e1, e2⟩ := Option.bind_eq_some_iff.mp e
      obtain ⟨a, vs, rfl, h1, r1⟩ := lview_ok hh r e1
      obtain rfl := bools_ok r1 e2
      exact cr_any hc pins s σ H _ us Q I rx ⟨a, bs, rfl, .inl (.inl h1), q.here hh (.bl _)⟩
    · exact q.elim
  · obtain ⟨v, rfl, r⟩ := ra.one
    split at q
    · rename_i d bs e
      obtain ⟨xs, e1, e2⟩ := Option.bind_eq_some_iff.mp e
      obtain ⟨a, vs, rfl, h1, r1⟩ := lview_ok hh r e1
      obtain rfl := intsD_ok r1 e2
      exact cr_sum hc pins s σ H _ us Q I rx ⟨a, bs, rfl, .inl (.inl h1), q.here hh (.int _)⟩
    · exact q.elim
  · obtain ⟨v, rfl, r⟩ := ra.one
    split at q
    · rename_i d x e
      unfold reprD at e
      split at e
      · rename_i p e1
        split at e
        · rename_i hz
          cases e
          exact call_reprD hg hu pins s σ H _ us Q I rx ⟨v, p, rfl, view_dp hh r e1, hz.1, hz.2.1, lim_line hz.2.2, q.here hh (.str _)⟩
        · cases e
      · cases e
    · exact q.elim
  · exact q.elim
end
end Itp

namespace Itp
open PySem PySem.Spec L2
/-! ### methods of built-in types -/
inductive Me where
  | append | extend | strip1
def Me.T : Me → String
  | .append => "list"
  | .extend => "list"
  | .strip1 => "str"
def Me.name : Me → Str
  | .append => "append"
  | .extend => "extend"
  | .strip1 => "strip"
def Me.id : Me → String
  | .append => "list.append"
  | .extend => "list.extend"
  | .strip1 => "str.strip"
theorem Me.plain (m : Me) : PlainAttrs m.T := by
  cases m
  · exact PySem.F.plainAttrs_list
  · exact PySem.F.plainAttrs_list
  · exact PySem.F.plainAttrs_str
theorem Me.slot (m : Me) : Slot m.T m.name m.id := by
  cases m
  · exact PySem.F.slot_list_append
  · exact PySem.F.slot_list_extend
  · exact PySem.F.slot_str_strip
theorem Me.typ (m : Me) : typeOf (.builtin m.id) = pure (.type "method_descriptor") := by
  cases m
  · exact PySem.F.type_list_append
  · exact PySem.F.type_list_extend
  · exact PySem.F.type_str_strip
/-- the receiver is of the method's type -/
def isT (S : Sto) (T : String) (d : D) : Bool := match d with
  | .str _ => T == "str"
  | d => match lview S d with
    | some _ => T == "list"
    | none => false
def meF (m : Me) (a : D) (as : List D) (S : Sto) : R D := match m, a, as with
  | .append, .ref n, [d] => match S[n]? with
    | some (.lst xs) => if xs.length < lim then .ok .non (S.set n (.lst (xs ++ [d]))) else .bad
    | _ => .bad
  | .extend, .ref n, [d] => match S[n]?, lview S d with
    | some (.lst xs), some ys => if xs.length + ys.length ≤ lim then .ok .non (S.set n (.lst (xs ++ ys))) else .bad
    | _, _ => .bad
  | .strip1, .str x, [.str y] => if x.length ≤ lim then .ok (.str (Txt.stripChars x y)) S else .bad
  | _, _, _ => .bad
section
variable {k : Kg} {W : Wd} {S : Sto} {H : Hp}
theorem isT_ok (h : RepH k W S H) {d : D} {v : V} (r : RepV k W d v) {T : String} (e : isT S T d = true) : tyV k.K T v H := by
  have viaL : ∀ {d : D} {v : V}, RepV k W d v → (match lview S d with | some _ => T == "list" | none => false) = true → tyV k.K T v H := by
    intro d v r e
    cases q : lview S d with
    | none => rw [q] at e; cases e
    | some xs =>
      rw [q] at e
      obtain ⟨a, vs, rfl, h1, r1⟩ := lview_ok h r q
      exact .inl ⟨eq_of_beq e, vs, .inl (.inl h1)⟩
  have r' := r
  cases r with
  | str x => exact eq_of_beq e
  | _ => exact viaL r' e
theorem ref_at (h : RepH k W S H) {n : Nat} {v : V} (r : RepV k W (.ref n) v) {xs : List D} (e : S[n]? = some (.lst xs)) : ∃ a vs, v = .ref a ∧ W.io[n]? = some a ∧ H a = some (.lst vs) ∧ RepVs k W xs vs := by
  cases r with
  | ref h1 =>
    obtain ⟨a', o, g1, g2, g3, _⟩ := h.st n _ e (fun z => nomatch z)
    rw [h1] at g1
    cases g1
    cases g3 with
    | lst r => exact ⟨_, _, rfl, h1, g2, r⟩
end
section
variable {X : Cx}
theorem call_me (m : Me) : MtR X m.id (rDM (kg X) (meF m)) := by
  intro pins s σ H x xs v us Q I rx rxs h
  obtain ⟨W, S, a, as, ra, ras, hh, q⟩ := h
  unfold meF at q
  split at q
  · split at q
    · rename_i xs' e
      split at q
      · rename_i hl
        obtain ⟨p, vs, rfl, h0, h1, r1⟩ := ref_at hh ra e
        obtain ⟨y, rfl, ry⟩ := ras.one
        refine mt_append pins s σ H _ _ v us Q I rx rxs ⟨p, vs, y, rfl, rfl, h1, ?_, ?_⟩
        · rw [r1.length]
          exact Nat.lt_of_lt_of_le hl (lim_line (Nat.le_refl _))
        · exact q W _ _ (Frm.write h0) (hh.write e (fun z => nomatch z) h0 (.lst (r1.snoc ry))) .non
      · exact q.elim
    · exact q.elim
  · split at q
    · rename_i xs' ys e1 e2
      split at q
      · rename_i hl
        obtain ⟨p, vs, rfl, h0, h1, r1⟩ := ref_at hh ra e1
        obtain ⟨y, rfl, ry⟩ := ras.one
        obtain ⟨b, ws, rfl, h2, r2⟩ := lview_ok hh ry e2
        refine mt_extend pins s σ H _ _ v us Q I rx rxs ⟨p, b, vs, ws, rfl, rfl, h1, h2, ?_, ?_⟩
        · rw [r1.length, r2.length]
          exact lim_line hl
        · exact q W _ _ (Frm.write h0) (hh.write e1 (fun z => nomatch z) h0 (.lst (r1.append r2))) .non
      · exact q.elim
    · exact q.elim
  · split at q
    · rename_i hl
      obtain ⟨y, rfl, ry⟩ := ras.one
      cases ra; cases ry
      exact mt_stripChars pins s σ H _ _ v us Q I rx rxs ⟨_, _, rfl, rfl, lim_line hl, q.here hh (.str _)⟩
    · exact q.elim
  · exact q.elim
end
/-! ### a[b] -/
def ixF (a b : D) (S : Sto) : R D := match a, b with
  | .scr ns, .int i => match atI ns i with
    | some j => .ok (.int j) S
    | none => .bad
  | .str x, .int i => match atI x.cps.toList i with
    | some c => if x.length ≤ lim then .ok (.str ⟨#[c]⟩) S else .bad
    | none => .bad
  | a, .int i => match (sview S a).bind fun xs => atI xs i with
    | some d => .ok d S
    | none => .bad
  | _, _ => .bad
theorem atI_rep {k : Kg} {W : Wd} {ds : List D} {vs : List V} (r : RepVs k W ds vs) {i : Int} {d : D} (e : atI ds i = some d) : ∃ v, atI vs i = some v ∧ RepV k W d v := by
  unfold atI at e ⊢
  rw [r.length]
  cases q : ixN ds.length i with
  | none => rw [q] at e; cases e
  | some j =>
    rw [q] at e
    obtain ⟨v, h1, h2⟩ := r.get (i := j) (d := d) e
    exact ⟨v, h1, h2⟩
theorem atI_map {α β : Type} (f : α → β) {xs : List α} {i : Int} {x : α} (e : atI xs i = some x) : atI (xs.map f) i = some (f x) := by
  unfold atI at e ⊢
  rw [List.length_map]
  cases q : ixN xs.length i with
  | none => rw [q] at e; cases e
  | some j =>
    rw [q] at e
    show (xs.map f)[j]? = some (f x)
    have e : xs[j]? = some x := e
    rw [List.getElem?_map, e]
    rfl
section
variable {X : Cx}
theorem ix_ok : IxR X (rD2 (kg X) ixF) := by
  intro value slice pins s σ H x y v u Q I rx ry h hs
  obtain ⟨W, S, a, b, ra, rb, hh, q⟩ := h
  unfold ixF at q
  split at q
  · split at q
    · rename_i j e
      cases ra with
      | scr h1 =>
        cases rb
        exact ix_seq value slice pins s σ H _ _ v u Q I rx ry (.inl ⟨_, _, _, _, rfl, rfl, SqL.real hh h1, atI_map V.int e, q.here hh (.int _)⟩) hs
    · exact q.elim
  · cases ra; cases rb
    split at q
    · rename_i c e
      split at q
      · rename_i hl
        exact ix_seq value slice pins s σ H _ _ v u Q I rx ry (.inr (.inr ⟨_, _, _, rfl, rfl, lim_line hl, e, q.here hh (.str _)⟩)) hs
      · exact q.elim
    · exact q.elim
  · cases rb
    split at q
    · rename_i d e
      obtain ⟨xs, e1, e2⟩ := Option.bind_eq_some_iff.mp e
      obtain ⟨p, vs, rfl, h1, r1⟩ := sview_ok hh ra e1
      obtain ⟨z, h2, h3⟩ := atI_rep r1 e2
      rcases h1 with h1 | h1
      · exact ix_seq value slice pins s σ H _ _ v u Q I rx ry (.inl ⟨_, _, _, _, rfl, rfl, h1, h2, q.here hh h3⟩) hs
      · exact ix_seq value slice pins s σ H _ _ v u Q I rx ry (.inr (.inl ⟨_, _, _, _, rfl, rfl, h1, h2, q.here hh h3⟩)) hs
    · exact q.elim
  · exact q.elim
end
/-! ### a[b] = c -/
def setF (a b c : D) (S : Sto) : Option Sto := match a, b with
  | .ref n, .int i => match S[n]? with
    | some (.lst xs) => (ixN xs.length i).map fun j => S.set n (.lst (xs.set j c))
    | _ => none
  | _, _ => none
/-- what a store of an item is to reach -/
def rDS (k : Kg) : TSet := fun o i v H Q => ∃ W S a b c S', RepV k W a o ∧ RepV k W b i ∧ RepV k W c v ∧ RepH k W S H ∧ setF a b c S = some S' ∧ ∀ W' H', Frm W H W' H' → RepH k W' S' H' → Q H'
section
variable {X : Cx}
theorem set_ok : PSet X (rDS (kg X)) := by
  intro pins s σ H o i v ov iv u Q I ro ri rv h
  obtain ⟨W, S, a, b, c, S', ra, rb, rc, hh, e, q⟩ := h
  unfold setF at e
  split at e
  · split at e
    · rename_i n j _ xs e1
      obtain ⟨j', e2, rfl⟩ := Option.map_eq_some_iff.mp e
      obtain ⟨p, vs, rfl, h0, h1, r1⟩ := ref_at hh ra e1
      cases rb
      refine set_list pins s σ H _ _ _ ov iv u Q I ro ri rv ⟨p, vs, _, j', rfl, rfl, h1, by rw [r1.length]; exact e2, ?_⟩
      exact q W _ (Frm.write h0) (hh.write e1 (fun z => nomatch z) h0 (.lst (r1.set rc j')))
    · cases e
  · cases e
end
end Itp

namespace Itp
open PySem PySem.Spec L2
/-! ### code -/
inductive C where
  | var (i : Nat) | kint (i : Int) | kstr (x : Str) | kbl (b : Bool) | knon
  | glo (x : Str) | ty (t : Tn)
  | bin (m : Bool) (o : Operator) (a b : C) | un (o : UnaryOp) (a : C)
  | tv (a : C) | cmp (o : CmpOp) (a b : C) | chain (o o' : CmpOp) (a b c : C)
  | and (a b : C) | or (a b : C) | one (a : C) | not (a : C)
  | ife (t a b : C)
  | tup (as : C) | lst (m : Bool) (as : C) | dic (as : C) | pcons (k v r : C)
  | nil | cons (a as : C)
  | call (f : Str) (as : C) | bi (m : Bool) (f : Bi) (as : C) | me (f : Me) (o as : C)
  | ix (a b : C)
  | lc (m : Bool) (own : List (Str × Nat)) (tg it ts e : C)
  | range1 (a : C) | range2 (a b : C) | over (a : C) | overS (a : C)
  | tn (i : Nat) | tt (ts : C)
  | pass | seq (a b : C) | fseq (i : Nat) (b : C) | asg (t e : C) | asgL (i : Nat) (m : Bool) (own : List (Str × Nat)) (tg it ts e : C) | aix (o i e : C) | par (i j : Nat) (a b : C)
  | ret (e : C) | ret0 | ifs (t a b : C) | for_ (t it b : C) | drop (e : C) | brk | cont

/-- what the module's names stand for: defs, constants -/
structure Ev where
  fn : Str → Option (List D → Sto → R D)
  cst : Str → Option D

/-- behind a statement -/
inductive RS where
  | nx (G : Gam) (S : Sto)
  | rt (d : D) (S : Sto)
  | bk (G : Gam) (S : Sto)
  | ct (G : Gam) (S : Sto)
  | exc (e : Exn) (G : Gam) (S : Sto)
  | bad
def RS.ofR {α : Type} (G : Gam) (r : R α) (f : α → Sto → RS) : RS := match r with
  | .ok a S => f a S
  | .exc e S => .exc e G S
  | .bad => .bad
def RS.then_ (r : RS) (f : Gam → Sto → RS) : RS := match r with
  | .nx G S => f G S
  | r => r
def wipeG (G : Gam) : List Nat → Gam
  | [] => G
  | v :: vs => (wipeG G vs).set v none
/-! a target -/
mutual
def asgG : C → D → Gam → Option Gam
  | .tn i, d, G => some (G.set i (some d))
  | .tt ts, .tup ds, G => asgGs ts ds G
  | _, _, _ => none
def asgGs : C → List D → Gam → Option Gam
  | .nil, [], G => some G
  | .cons t ts, d :: ds, G => (asgG t d G).bind fun G' => asgGs ts ds G'
  | _, _, _ => none
end
def forLoop (tg : D → Gam → Option Gam) (body : Gam → Sto → RS) : List D → Gam → Sto → RS
  | [], G, S => .nx G S
  | d :: ds, G, S => match tg d G with
    | none => .bad
    | some G1 => match body G1 S with
      | .nx G2 S2 => forLoop tg body ds G2 S2
      | .ct G2 S2 => forLoop tg body ds G2 S2
      | .bk G2 S2 => .nx G2 S2
      | .rt d S2 => .rt d S2
      | .exc e G2 S2 => .exc e G2 S2
      | .bad => .bad
/-- a comprehension: one turn gives nothing, or an item -/
def lcLoop (turn : D → Sto → R (Option D)) : List D → List D → Sto → R (List D)
  | [], acc, S => .ok acc S
  | d :: ds, acc, S => match turn d S with
    | .ok (some y) S1 => if acc.length < lim then lcLoop turn ds (acc ++ [y]) S1 else .bad
    | .ok none S1 => lcLoop turn ds acc S1
    | _ => .bad
def rangeD (lo : Int) (n : Nat) : List D := (List.range n).map fun i => .int (lo + (i : Nat))
/-- freezing a thing of the store -/
def freeze (S : Sto) : D → Option (D × Sto)
  | .ref n => match S[n]? with
    | some (.lst xs) => some (.lst xs, S.set n .dead)
    | _ => none
  | _ => none
def tstB (o : Option Bool) (S : Sto) : R Bool := match o with
  | some c => .ok c S
  | none => .bad
/-- a key that is an int or a text -/
def keyD : D → Option Key
  | .int i => some (.inl i)
  | .str x => some (.inr x)
  | _ => none
def keyEq : D → D → Bool
  | .int i, .int j => decide (i = j)
  | .str x, .str y => decide (x = y)
  | _, _ => false
def nodupK : List D → Bool
  | [] => true
  | d :: ds => !(ds.any fun e => keyEq d e) && nodupK ds
variable (E : Ev)
mutual
def evalE : C → Gam → Sto → R D
  | .var i, G, S => match G[i]? with
    | some (some d) => .ok d S
    | _ => .bad
  | .kint i, _, S => .ok (.int i) S
  | .kstr x, _, S => .ok (.str x) S
  | .kbl b, _, S => .ok (.bl b) S
  | .knon, _, S => .ok .non S
  | .glo x, _, S => match E.cst x with
    | some d => .ok d S
    | none => .bad
  | .ty t, _, S => .ok (.ty t) S
  | .bin m o a b, G, S => (evalE a G S).bind fun x S1 => (evalE b G S1).bind fun y S2 => binop m o x y S2
  | .un o a, G, S => (evalE a G S).bind fun x S1 => unop o x S1
  | .cmp o a b, G, S => (evalE a G S).bind fun x S1 => (evalE b G S1).bind fun y S2 => cmpop o x y S2
  | .chain o o' a b c, G, S => (evalE a G S).bind fun x S1 => (evalE b G S1).bind fun y S2 => match cmpB o x y S2 with
    | some true => (evalE c G S2).bind fun z S3 => cmpop o' y z S3
    | some false => .ok (.bl false) S2
    | none => .bad
  | .and a b, G, S => (evalE a G S).bind fun x S1 => match truth S1 x with
    | some true => evalE b G S1
    | some false => .ok x S1
    | none => .bad
  | .or a b, G, S => (evalE a G S).bind fun x S1 => match truth S1 x with
    | some true => .ok x S1
    | some false => evalE b G S1
    | none => .bad
  | .one a, G, S => evalE a G S
  | .not a, G, S => (evalE a G S).bind fun x S1 => match truth S1 x with
    | some c => .ok (.bl (!c)) S1
    | none => .bad
  | .ife t a b, G, S => (evalT t G S).bind fun c S1 => if c = true then evalE a G S1 else evalE b G S1
  | .tup as, G, S => (evalA as G S).bind fun ds S1 => if ds.length ≤ lim then .ok (.tup ds) S1 else .bad
  | .lst m as, G, S => (evalA as G S).bind fun ds S1 => if ds.length ≤ lim then mk m ds S1 else .bad
  | .dic as, G, S => (evalP as G S).bind fun p S1 => if (p.1.length ≤ 15 ∧ p.1.length = p.2.length ∧ p.1.all (fun d => (keyD d).isSome) = true) ∧ nodupK p.1 = true then .ok (.dct p.1 p.2) S1 else .bad
  | .call f as, G, S => match E.fn f with
    | some g => (evalA as G S).bind fun ds S1 => g ds S1
    | none => .bad
  | .bi m f as, G, S => (evalA as G S).bind fun ds S1 => biF m f ds S1
  | .me f o as, G, S => (evalE o G S).bind fun x S1 => if isT S1 f.T x = true then (evalA as G S1).bind fun ds S2 => meF f x ds S2 else .bad
  | .ix a b, G, S => (evalE a G S).bind fun x S1 => (evalE b G S1).bind fun y S2 => ixF x y S2
  | .lc m own tg it ts e, G, S => (evalI it G S).bind fun ds S1 => (lcLoop (fun d S => match asgG tg d (wipeG G (own.map (·.2))) with
      | none => .bad
      | some G1 => (evalT ts G1 S).bind fun c S1 => if c = true then (evalE e G1 S1).bind fun y S2 => .ok (some y) S2 else .ok none S1) ds [] S1).bind fun acc S2 => mk m acc S2
  | _, _, _ => .bad
def evalA : C → Gam → Sto → R (List D)
  | .nil, _, S => .ok [] S
  | .cons a as, G, S => (evalE a G S).bind fun x S1 => (evalA as G S1).bind fun xs S2 => .ok (x :: xs) S2
  | _, _, _ => .bad
/-- the pairs of a display -/
def evalP : C → Gam → Sto → R (List D × List D)
  | .nil, _, S => .ok ([], []) S
  | .pcons k v r, G, S => (evalE k G S).bind fun x S1 => (evalE v G S1).bind fun y S2 => (evalP r G S2).bind fun p S3 => .ok (x :: p.1, y :: p.2) S3
  | _, _, _ => .bad
def evalT : C → Gam → Sto → R Bool
  | .nil, _, S => .ok true S
  | .not a, G, S => (evalT a G S).bind fun c S1 => .ok (!c) S1
  | .and a b, G, S => (evalT a G S).bind fun c S1 => if c = true then evalT b G S1 else .ok false S1
  | .or a b, G, S => (evalT a G S).bind fun c S1 => if c = true then .ok true S1 else evalT b G S1
  | .one a, G, S => evalT a G S
  | .tv a, G, S => (evalE a G S).bind fun x S1 => tstB (truth S1 x) S1
  | .cmp o a b, G, S => (evalE a G S).bind fun x S1 => (evalE b G S1).bind fun y S2 => tstB (cmpB o x y S2) S2
  | .chain o o' a b c, G, S => (evalE a G S).bind fun x S1 => (evalE b G S1).bind fun y S2 => match cmpB o x y S2 with
    | some true => (evalE c G S2).bind fun z S3 => tstB (cmpB o' y z S3) S3
    | some false => .ok false S2
    | none => .bad
  | _, _, _ => .bad
/-- what is walked -/
def evalI : C → Gam → Sto → R (List D)
  | .range1 a, G, S => (evalE a G S).bind fun x S1 => match x with
    | .int j => if -(2 ^ 62) ≤ j ∧ j < 2 ^ 62 then .ok (rangeD 0 j.toNat) S1 else .bad
    | _ => .bad
  | .range2 a b, G, S => (evalE a G S).bind fun x S1 => (evalE b G S1).bind fun y S2 => match x, y with
    | .int i, .int j => if -(2 ^ 62) ≤ i ∧ i < 2 ^ 62 ∧ -(2 ^ 62) ≤ j ∧ j < 2 ^ 62 then .ok (rangeD i (j - i).toNat) S2 else .bad
    | _, _ => .bad
  | .over a, G, S => (evalE a G S).bind fun x S1 => match x with
    | .lst xs => .ok xs S1
    | .tup xs => .ok xs S1
    | _ => .bad
  | .overS a, G, S => (evalE a G S).bind fun x S1 => match x with
    | .str x => .ok (x.cps.toList.map fun c => .str ⟨#[c]⟩) S1
    | _ => .bad
  | _, _, _ => .bad
def evalS : C → Gam → Sto → RS
  | .pass, G, S => .nx G S
  | .brk, G, S => .bk G S
  | .cont, G, S => .ct G S
  | .seq a b, G, S => (evalS a G S).then_ fun G1 S1 => evalS b G1 S1
  | .fseq i b, G, S => match G[i]? with
    | some (some d) => match freeze S d with
      | some (d', S') => evalS b (G.set i (some d')) S'
      | none => .bad
    | _ => .bad
  | .asg t e, G, S => .ofR G (evalE e G S) fun x S1 => match asgG t x G with
    | some G1 => .nx G1 S1
    | none => .bad
  | .asgL i m own tg it ts e, G, S => .ofR G ((evalI it G S).bind fun ds S1 => (lcLoop (fun d S => match asgG tg d (wipeG G (own.map (·.2))) with
      | none => .bad
      | some G1 => (evalT ts G1 S).bind fun c S1 => if c = true then (evalE e G1 S1).bind fun y S2 => .ok (some y) S2 else .ok none S1) ds [] S1).bind fun acc S2 => mk m acc S2) fun x S1 => .nx (G.set i (some x)) S1
  | .aix o i e, G, S => .ofR G (evalE e G S) fun x S1 => .ofR G (evalE o G S1) fun y S2 => .ofR G (evalE i G S2) fun z S3 => match setF y z x S3 with
    | some S4 => .nx G S4
    | none => .bad
  | .par i j a b, G, S => .ofR G (evalE a G S) fun x S1 => .ofR G (evalE b G S1) fun y S2 => .nx ((G.set i (some x)).set j (some y)) S2
  | .ret e, G, S => .ofR G (evalE e G S) fun x S1 => .rt x S1
  | .ret0, G, S => .rt .non S
  | .ifs t a b, G, S => .ofR G (evalT t G S) fun c S1 => if c = true then evalS a G S1 else evalS b G S1
  | .for_ t it b, G, S => .ofR G (evalI it G S) fun ds S1 => forLoop (asgG t) (fun G S => evalS b G S) ds G S1
  | .drop e, G, S => .ofR G (evalE e G S) fun _ S1 => .nx G S1
  | _, _, _ => .bad
end
example : evalE E (.kint 3) [] [] = .ok (.int 3) [] := rfl
example (a b : C) (G : Gam) (S : Sto) : evalE E (.bin true .Add a b) G S = (evalE E a G S).bind fun x S1 => (evalE E b G S1).bind fun y S2 => binop true .Add x y S2 := rfl
end Itp

namespace Itp
open PySem PySem.Spec L2
/-! ### no errors of the operations themselves -/
theorem mk_ne {m : Bool} {xs : List D} {S S' : Sto} {e : Exn} : mk m xs S ≠ .exc e S' := by
  unfold mk
  split <;> nofun
theorem binop_ne {m : Bool} {o : Operator} {a b : D} {S S' : Sto} {e : Exn} : binop m o a b S ≠ .exc e S' := by
  unfold binop
  repeat' split
  all_goals first | exact mk_ne | nofun
theorem unop_ne {o : UnaryOp} {a : D} {S S' : Sto} {e : Exn} : unop o a S ≠ .exc e S' := by
  unfold unop
  split <;> nofun
theorem cmpop_ne {o : CmpOp} {a b : D} {S S' : Sto} {e : Exn} : cmpop o a b S ≠ .exc e S' := by
  unfold cmpop
  split <;> nofun
theorem biF_ne {m : Bool} {f : Bi} {as : List D} {S S' : Sto} {e : Exn} : biF m f as S ≠ .exc e S' := by
  unfold biF
  repeat' split
  all_goals first | exact mk_ne | nofun
theorem meF_ne {f : Me} {a : D} {as : List D} {S S' : Sto} {e : Exn} : meF f a as S ≠ .exc e S' := by
  unfold meF
  repeat' split
  all_goals nofun
theorem ixF_ne {a b : D} {S S' : Sto} {e : Exn} : ixF a b S ≠ .exc e S' := by
  unfold ixF
  repeat' split
  all_goals nofun

/-! ### an error, and the value that flies -/
inductive RepX (k : Kg) (W : Wd) (H : Hp) : Exn → Value → Option Addr → Prop
  | plain {c : Str} {C : Addr} (h : k.mg c = some (.ref C)) : RepX k W H ⟨c, none⟩ (.ref C) none
  | kept {c f : Str} {C a : Addr} {d : D} {v : V} (h : k.mg c = some (.ref C)) (h1 : H a = some (.xd [(f, v)])) (r : RepV k W d v) : RepX k W H ⟨c, some (f, d)⟩ (.ref C) (some a)
  | blt (n : String) : RepX k W H ⟨Str.ofString n, none⟩ (.type n) none

/-! ### what is to be reached -/
def FinE {α : Type} (k : Kg) (Wx : WX) (σ : St) (W0 : Wd) (H0 : Hp) (r : R α) (K : α → Sto → Wd → Hp → Prop) : Prop := match r with
  | .ok a S => ∀ W H, Frm W0 H0 W H → RepH k W S H → K a S W H
  | .exc e S => ∀ W H cls d, Frm W0 H0 W H → RepH k W S H → RepX k W H e cls d → Wx cls d σ H
  | .bad => False
section
variable {α β : Type} {k : Kg} {Wx : WX} {σ : St} {W0 W1 : Wd} {H0 H1 : Hp}
theorem FinE.step {r : R α} {K : α → Sto → Wd → Hp → Prop} (f : Frm W0 H0 W1 H1) (h : FinE k Wx σ W0 H0 r K) : FinE k Wx σ W1 H1 r K := by
  cases r with
  | ok a S => exact fun W H g => h W H (f.trans g)
  | exc e S => exact fun W H c d g => h W H c d (f.trans g)
  | bad => exact h
theorem FinE.mono {r : R α} {K K' : α → Sto → Wd → Hp → Prop} (h : FinE k Wx σ W0 H0 r K) (m : ∀ a S W H, Frm W0 H0 W H → RepH k W S H → K a S W H → K' a S W H) : FinE k Wx σ W0 H0 r K' := by
  cases r with
  | ok a S => exact fun W H g q => m a S W H g q (h W H g q)
  | exc e S => exact h
  | bad => exact h
theorem FinE.bind {r : R α} {f : α → Sto → R β} {K : β → Sto → Wd → Hp → Prop} (h : FinE k Wx σ W0 H0 (r.bind f) K) : FinE k Wx σ W0 H0 r (fun a S W H => FinE k Wx σ W H (f a S) K) := by
  cases r with
  | ok a S => exact fun W H g _ => FinE.step g h
  | exc e S => exact h
  | bad => exact h
theorem FinE.bind0 {r : R α} {f : α → Sto → R β} {K : β → Sto → Wd → Hp → Prop} (h : FinE k Wx σ W0 H0 (r.bind f) K) : FinE k Wx σ W0 H0 r (fun a S _ _ => FinE k Wx σ W0 H0 (f a S) K) := by
  cases r with
  | ok a S => exact fun W H _ _ => h
  | exc e S => exact h
  | bad => exact h
theorem FinE.val {r : R D} {Q : VK} (n : ∀ e S, r ≠ .exc e S) (h : FinE k Wx σ W0 H0 r (fun d _ W H => ∀ v, RepV k W d v → Q v H)) : FinV k W0 H0 r Q := by
  cases r with
  | ok d S => exact fun W H v g q rv => h W H g q v rv
  | exc e S => exact absurd rfl (n e S)
  | bad => exact h
end
/-- behind a statement -/
def FinS (k : Kg) (Wx : WX) (W0 : Wd) (H0 : Hp) (r : RS) (D : Ends) : Prop := match r with
  | .nx G S => ∀ W H σ, Frm W0 H0 W H → RepH k W S H → RepS k W G σ → D.nx σ H
  | .rt d S => ∀ W H v, Frm W0 H0 W H → RepH k W S H → RepV k W d v → D.rt v H
  | .bk G S => ∀ W H σ, Frm W0 H0 W H → RepH k W S H → RepS k W G σ → D.bk σ H
  | .ct G S => ∀ W H σ, Frm W0 H0 W H → RepH k W S H → RepS k W G σ → D.ct σ H
  | .exc e G S => ∀ W H σ cls d, Frm W0 H0 W H → RepH k W S H → RepS k W G σ → RepX k W H e cls d → Wx cls d σ H
  | .bad => False
section
variable {α : Type} {k : Kg} {Wx : WX} {σ : St} {W0 W1 : Wd} {H0 H1 : Hp} {D : Ends}
theorem FinS.step {r : RS} (f : Frm W0 H0 W1 H1) (h : FinS k Wx W0 H0 r D) : FinS k Wx W1 H1 r D := by
  cases r with
  | nx G S => exact fun W H σ g => h W H σ (f.trans g)
  | rt d S => exact fun W H v g => h W H v (f.trans g)
  | bk G S => exact fun W H σ g => h W H σ (f.trans g)
  | ct G S => exact fun W H σ g => h W H σ (f.trans g)
  | exc e G S => exact fun W H σ c d g => h W H σ c d (f.trans g)
  | bad => exact h
theorem FinS.ofR {r : R α} {G : Gam} {f : α → Sto → RS} (rs : RepS k W0 G σ) (h : FinS k Wx W0 H0 (.ofR G r f) D) : FinE k Wx σ W0 H0 r (fun a S W H => FinS k Wx W H (f a S) D) := by
  cases r with
  | ok a S => exact fun W H g _ => FinS.step g h
  | exc e S => exact fun W H c d g q x => h W H σ c d g q (rs.mono g.le) x
  | bad => exact h
theorem FinS.then_ {r : RS} {f : Gam → Sto → RS} (h : FinS k Wx W0 H0 (r.then_ f) D) : FinS k Wx W0 H0 r { D with nx := fun σ H => ∃ W G S, Frm W0 H0 W H ∧ RepH k W S H ∧ RepS k W G σ ∧ FinS k Wx W H (f G S) D } := by
  cases r with
  | nx G S => exact fun W H σ g q rs => ⟨W, G, S, g, q, rs, FinS.step g h⟩
  | rt d S => exact h
  | bk G S => exact h
  | ct G S => exact h
  | exc e G S => exact h
  | bad => exact h
end

/-! ### the readings -/
section
variable (k : Kg) (E : Ev) (Wx : WX) (c : C)
def RdE : TE := fun σ H Q => ∃ W G S, RepS k W G σ ∧ RepH k W S H ∧ FinE k Wx σ W H (evalE E c G S) (fun d _ W' H' => ∀ v, RepV k W' d v → Q v H')
def RdA : TA := fun σ H Q => ∃ W G S, RepS k W G σ ∧ RepH k W S H ∧ FinE k Wx σ W H (evalA E c G S) (fun ds _ W' H' => ∀ vs, RepVs k W' ds vs → Q vs H')
def RdT : TT := fun σ H Q => ∃ W G S, RepS k W G σ ∧ RepH k W S H ∧ FinE k Wx σ W H (evalT E c G S) (fun b _ _ H' => Q b H')
/-- J walks the data ds -/
def WalkD (W0 : Wd) (J : It) (ds : List D) : Prop := ∀ (i : Nat) (W : Wd) (S : Sto) (H : Hp), W0.le W → RepH k W S H →
  (i = ds.length → J.stop i H) ∧ ∀ d, ds[i]? = some d → J.go i H ∧ ∀ x H', J.yld i H x H' → ∃ W', Frm W H W' H' ∧ RepH k W' S H' ∧ RepV k W' d x
def RdI : TI := fun σ H R => ∃ W G S, RepS k W G σ ∧ RepH k W S H ∧ FinE k Wx σ W H (evalI E c G S) (fun ds _ W' H' => ∀ J, WalkD k W' J ds → R J H')
def RdS : TS := fun D σ H => ∃ W G S, RepS k W G σ ∧ RepH k W S H ∧ FinS k Wx W H (evalS E c G S) D
/-- the slots of a target -/
def slots : C → List Nat
  | .tn i => [i]
  | .tt ts => slots ts
  | .cons t ts => slots t ++ slots ts
  | _ => []
def SlotEq (vs : List Nat) (σ σ' : St) : Prop := σ'.length = σ.length ∧ ∀ i, i ∉ vs → σ'[i]? = σ[i]?
def RdG : TG := fun v σ H Q => ∃ W G S d, RepS k W G σ ∧ RepH k W S H ∧ RepV k W d v ∧ ∃ G', asgG c d G = some G' ∧ ∀ σ', RepS k W G' σ' → SlotEq (slots c) σ σ' → Q σ' H
def RdGs : TGs := fun vs σ H Q => ∃ W G S ds, RepS k W G σ ∧ RepH k W S H ∧ RepVs k W ds vs ∧ ∃ G', asgGs c ds G = some G' ∧ ∀ σ', RepS k W G' σ' → SlotEq (slots c) σ σ' → Q σ' H
end
section
variable {X : Cx}
theorem _root_.L2.PE.imp {e : Expr} {t t' : TE} (h : PE X e t) (i : ∀ σ H Q, t' σ H Q → t σ H Q) : PE X e t' := ⟨fun pins s σ H Q I q => h.run pins s σ H Q I (i σ H Q q)⟩
theorem _root_.L2.PT.imp {e : Expr} {t t' : TT} (h : PT X e t) (i : ∀ σ H Q, t' σ H Q → t σ H Q) : PT X e t' := ⟨fun pins s σ H Q I q => h.run pins s σ H Q I (i σ H Q q)⟩
theorem _root_.L2.PW.imp {e : Expr} {t t' : TT} (h : PW X e t) (i : ∀ σ H Q, t' σ H Q → t σ H Q) : PW X e t' := ⟨fun wh pins s σ H Q I q => h.run wh pins s σ H Q I (i σ H Q q)⟩
theorem _root_.L2.PA.imp {es : List Expr} {t t' : TA} (h : PA X es t) (i : ∀ σ H Q, t' σ H Q → t σ H Q) : PA X es t' := ⟨fun pos pins s σ H Q I q => h.run pos pins s σ H Q I (i σ H Q q)⟩
theorem _root_.L2.PI.imp {tg e : Expr} {t t' : TI} (h : PI X tg e t) (i : ∀ σ H Q, t' σ H Q → t σ H Q) : PI X tg e t' := ⟨fun pins s σ H Q I q => h.run pins s σ H Q I (i σ H Q q)⟩
theorem _root_.L2.PG.imp {e : Expr} {t t' : TG} (h : PG X e t) (i : ∀ v σ H Q, t' v σ H Q → t v σ H Q) : PG X e t' := ⟨fun pins s σ H v u Q I r q => h.run pins s σ H v u Q I r (i v σ H Q q)⟩
theorem _root_.L2.PGs.imp {es : List Expr} {t t' : TGs} (h : PGs X es t) (i : ∀ v σ H Q, t' v σ H Q → t v σ H Q) : PGs X es t' := ⟨fun pins s σ H v u Q I r q => h.run pins s σ H v u Q I r (i v σ H Q q)⟩
theorem _root_.L2.PS.imp {st : Stmt} {t t' : TS} (h : PS X st t) (i : ∀ D σ H, t' D σ H → t D σ H) : PS X st t' := ⟨fun pins s σ H D I q => h.run pins s σ H D I (i D σ H q)⟩
theorem _root_.L2.PSs.imp {st : List Stmt} {t t' : TS} (h : PSs X st t) (i : ∀ D σ H, t' D σ H → t D σ H) : PSs X st t' := ⟨fun pins s σ H D I q => h.run pins s σ H D I (i D σ H q)⟩
end

/-! ### defs -/
/-- a def's promise by a function on data -/
def spF (k : Kg) (n : Nat) (g : List D → Sto → R D) : Sp := fun vs H Q E => ∃ W S ds, ds.length = n ∧ RepVs k W ds vs ∧ RepH k W S H ∧ FinE k (fun cls d _ H' => E cls d H') [] W H (g ds S) (fun d _ W' H' => ∀ v, RepV k W' d v → Q v H')
/-- as HandS.FnOk, where no repr is under way -/
structure FnG (P : Program) (w : World) (K : PySem.W.Frag) (mg : Str → Option Value) (base : Heap) (k : Nat) (f : Addr) (fd : FuncData) (ps : List Str) (sp : Sp) : Prop where
  len : ∀ vs H Q E, sp vs H Q E → vs.length = ps.length
  run : ∀ (A : Around) (outer : List Env) (s : Shared) (H : Hp) (args : Args) (us : List Value) (vs : List V) (Q : VK) (E : XK), Room k A → A.guards = some [] → Env0 P w K mg base A outer s H → BindsTo s fd args (ps.zip us) → Vals vs us → sp vs H Q E →
    codeAny (model P w) A (.call (.ref f) args) (CR (L2.CX P w) outer P w H s Q E) s
section
variable {X : Cx} {pins : List (Addr × Obj)} {σ : St} {H : Hp} {s : Shared} {Wx : WX} {j : Nat} {f : Addr} {fd : FuncData} {ps : List Str} {sp : Sp} {us : List Value} {vs : List V} {Q : VK}
theorem run_fnG (F : FnG X.prog X.w X.K X.mg X.base j f fd ps sp) (hr : Room j X.A) (hg : X.A.guards = some []) (hb : Binds X.K fd ps []) (tk : Takes X Wx) (I : Inv X pins σ H s) (r : Vals vs us)
    (h : sp vs H Q (fun cls d H' => Wx cls d σ H')) : wpAny (model X.prog X.w) X.A (call (.ref f) us) (EP X pins σ Q) X.xe s := by
  have hl : (us ++ []).length = ps.length := by rw [List.append_nil, ← r.length]; exact F.len _ _ _ _ h
  have hbb := hb s us I.kIn hl
  rw [List.append_nil] at hbb
  refine wpAny_call (codeAny_mono (F.run X.A X.stack s H ⟨us, []⟩ us vs Q _ hr hg I.env0 hbb r h) fun r s' hq => ?_)
  cases r with
  | error e => exact tk _ _ (XE.of_call I (fun _ _ _ z => z) hq)
  | ok fl =>
    cases fl with
    | ret u => exact I.after hq
    | next => exact False.elim hq
    | brk => exact False.elim hq
    | cont => exact False.elim hq
end
/-- what is known of a def by its name -/
def FunAt0 (P : Program) (w : World) (k : Kg) (base : Heap) (j : Nat) (x : Str) (g : List D → Sto → R D) : Prop := ∃ f fd ps, k.mg x = some (.ref f) ∧ PySem.W.keepIn k.K (.ref f) = true ∧ Binds k.K fd ps [] ∧ (∀ ds S, g ds S ≠ .bad → ds.length = ps.length) ∧
  FnG P w k.K k.mg base j f fd ps (spF k ps.length g)
abbrev FunAt (X : Cx) (j : Nat) (x : Str) (g : List D → Sto → R D) : Prop := FunAt0 X.prog X.w (kg X) X.base j x g
/-- what a whole law's texts lean on -/
structure Facts (P : Program) (w : World) (k : Kg) (base : Heap) (E : Ev) (bl : List Str) (j : Nat) : Prop where
  bl : ∀ x ∈ bl, k.mg x = none
  cst : ∀ x d, E.cst x = some d → ∃ u v, k.mg x = some u ∧ RelV v u ∧ ∀ W, RepV k W d v
  fn : ∀ x g, E.fn x = some g → FunAt0 P w k base j x g
/-- where code stands -/
structure Good (X : Cx) (E : Ev) (bl N : List Str) (sc so : Scope) (j : Nat) (Wx : WX) : Prop where
  hN : X.N = N
  hs : X.env.scope = sc
  hk : sc.kind = .function
  nd : N.Nodup
  calm : X.calm = true
  room : Room j X.A
  gd : X.A.guards = some []
  bl : ∀ x ∈ bl, X.mg x = none
  cst : ∀ x d, E.cst x = some d → ∃ u v, X.mg x = some u ∧ RelV v u ∧ ∀ W, RepV (kg X) W d v
  fn : ∀ x g, E.fn x = some g → FunAt X j x g
  pass : PassesOwn (model X.prog X.w) X.A X.env X.xe
  tk : Takes X Wx
  loc : ∀ x, Loc so x → Loc sc x ∧ (X.fn x = true ∨ sc.names.lookup x = some .local)
end Itp

namespace Itp
open PySem PySem.Spec L2
/-! ### syntax -/
def notStar : Expr → Bool
  | .Starred .. => false
  | _ => true
def notSet : Expr → Bool
  | .Set .. => false
  | _ => true
def notSlice : Expr → Bool
  | .Slice .. => false
  | _ => true
/-- no call without arguments (super) -/
def notSuper : Expr → Bool
  | .Call (.Name _ _) [] [] _ => false
  | _ => true
/-- a test that is its value's truth -/
def plainT : Expr → Bool
  | .UnaryOp .Not _ _ => false
  | .BoolOp .. => false
  | .IfExp .. => false
  | .Compare .. => false
  | _ => true
def notComp : Expr → Bool
  | .ListComp .. => false
  | .SetComp .. => false
  | .DictComp .. => false
  | _ => true
theorem star_cons {e : Expr} {es : List Expr} {env : Env} (h : notStar e = true) : starEach (e :: es) env = (false, eval e env) :: starEach es env := by
  cases e <;> first | rfl | cases h
theorem star_any {pos : Pos} {env : Env} : ∀ {es : List Expr}, es.all notStar = true → (backTo pos (starEach es env)).any (·.1) = false
  | [], _ => rfl
  | e :: es, h => by
    simp only [List.all_cons, Bool.and_eq_true] at h
    rw [star_cons h.1]
    have ih := star_any (pos := pos) (env := env) h.2
    unfold backTo at ih ⊢
    rw [List.map_cons, List.any_cons, ih]
    rfl
theorem star_all {pos : Pos} {env : Env} : ∀ {es : List Expr}, es.all notStar = true → (backTo pos (starEach es env)).all (fun x => !x.1) = true
  | [], _ => rfl
  | e :: es, h => by
    simp only [List.all_cons, Bool.and_eq_true] at h
    rw [star_cons h.1]
    have ih := star_all (pos := pos) (env := env) h.2
    unfold backTo at ih ⊢
    rw [List.map_cons, List.all_cons, ih]
    rfl
theorem noMarks {o : CmpOp} {e : Expr} (h : notSet e = true) : behindInMarks o e = false := by
  cases e <;> first | rfl | cases h
theorem noSwap {e : Expr} {t : Option Expr} {l : Nat} {env : Env} (h : notComp e = true) : swapsWith e t l env = pure false := by
  cases e <;> first | rfl | cases h
theorem noFold {e : Expr} {env : Env} (h : notSet e = true) (x : Value) : foldedSetIterable e env x = pure x := by
  cases e <;> first | rfl | cases h
theorem plain_is {e : Expr} {env : Env} (h : plainT e = true) (wh : Sem Value) : isTrue e env wh = (do let v ← wh; standAt e.pos; holding [v] (truthy v)) := by
  cases e with
  | UnaryOp o a p => cases o <;> first | rfl | cases h
  | BoolOp => cases h
  | IfExp => cases h
  | Compare => cases h
  | _ => rfl
theorem base_is {e : Expr} {a : Str} {env : Env} (h : notSuper e = true) (wh : Sem Value) : attributeBase e a env wh = wh := by
  unfold attributeBase
  split
  · cases h
  · rfl
theorem plainIx {b : Expr} (h : notSlice b = true) : PlainIx b := by
  intro o i
  cases b <;> first | rfl | cases h

variable {X : Cx} {E : Ev} {bl N : List Str} {sc so : Scope} {j : Nat} {Wx : WX}
abbrev rdE (X : Cx) := RdE (kg X)
section
variable (g : Good X E bl N sc so j Wx)
theorem Good.kind (g : Good X E bl N sc so j Wx) (x : Str) : X.env.kindOf x = sc.names.lookup x := by
  show X.env.scope.names.lookup x = _
  rw [g.hs]
theorem Good.units (g : Good X E bl N sc so j Wx) : X.A.units + 64 < cLine := g.room.units
/-! ### names, constants -/
theorem s_var (g : Good X E bl N sc so j Wx) {i : Nat} {x : Str} {pos : Pos} (hi : N[i]? = some x) (hv : Vis sc x) (hd : (x == ("__debug__" : Str)) = false) (hc : (x == ("__classdict__" : Str)) = false) : PE X (.Name x pos) (RdE (kg X) E Wx (.var i)) := by
  refine (pe_var (i := i) (by rw [g.hN]; exact hi) (by rw [g.hs]; exact hv) hd hc).imp fun σ H Q h => ?_
  obtain ⟨W, G, S, rs, rh, f⟩ := h
  cases q : G[i]? with
  | none =>
    rw [evalE, q] at f
    exact f.elim
  | some o =>
    cases o with
    | none =>
      rw [evalE, q] at f
      exact f.elim
    | some d =>
      rw [evalE, q] at f
      obtain ⟨v, h1, h2⟩ := rs.2 i d q
      exact ⟨v, h1, f W H (Frm.refl W H) rh v h2⟩
theorem s_kint {i : Int} {n : Nat} {pos : Pos} : PE X (.Constant (.int i) n pos) (RdE (kg X) E Wx (.kint i)) :=
  pe_int.imp fun σ H Q ⟨W, G, S, rs, rh, f⟩ => f W H (Frm.refl W H) rh _ (.int i)
theorem s_kstr {x : Str} {n : Nat} {pos : Pos} : PE X (.Constant (.str x) n pos) (RdE (kg X) E Wx (.kstr x)) :=
  pe_str.imp fun σ H Q ⟨W, G, S, rs, rh, f⟩ => f W H (Frm.refl W H) rh _ (.str x)
theorem s_kbl {b : Bool} {n : Nat} {pos : Pos} : PE X (.Constant (.bool b) n pos) (RdE (kg X) E Wx (.kbl b)) :=
  pe_bl.imp fun σ H Q ⟨W, G, S, rs, rh, f⟩ => f W H (Frm.refl W H) rh _ (.bl b)
theorem s_knon {n : Nat} {pos : Pos} : PE X (.Constant .none n pos) (RdE (kg X) E Wx .knon) :=
  pe_non.imp fun σ H Q ⟨W, G, S, rs, rh, f⟩ => f W H (Frm.refl W H) rh _ .non
theorem s_glo (g : Good X E bl N sc so j Wx) {x : Str} {pos : Pos} (hl : sc.names.lookup x = some .globalImplicit) (hd : (x == ("__debug__" : Str)) = false) : PE X (.Name x pos) (RdE (kg X) E Wx (.glo x)) := by
  cases q : E.cst x with
  | none =>
    refine ⟨fun pins s σ H Q I h => ?_⟩
    obtain ⟨W, G, S, rs, rh, f⟩ := h
    rw [evalE, q] at f
    exact f.elim
  | some d =>
    obtain ⟨u, v, h1, h2, h3⟩ := g.cst x d q
    refine (pe_glob (v := v) (show X.env.kindOf x = _ by rw [g.kind]; exact hl) h1 h2 hd).imp fun σ H Q h => ?_
    obtain ⟨W, G, S, rs, rh, f⟩ := h
    rw [evalE, q] at f
    exact f W H (Frm.refl W H) rh _ (h3 W)
def tnB : Tn → Option Str
  | .non => none
  | .bool => some "bool"
  | .int => some "int"
  | .str => some "str"
  | .tuple => some "tuple"
  | .list => some "list"
  | .dict => some "dict"
theorem tn_boot {t : Tn} {x : Str} (h : tnB t = some x) : bootBuiltins x = some (.type (tnS t)) ∧ x ≠ "__name__" ∧ (x == ("__debug__" : Str)) = false := by
  cases t <;> cases h
  · exact ⟨PyProof.Rows.boot_bool, by decide, by decide⟩
  · exact ⟨PyProof.Rows.boot_int, by decide, by decide⟩
  · exact ⟨PyProof.Rows.boot_str, by decide, by decide⟩
  · exact ⟨PyProof.Rows.boot_tuple, by decide, by decide⟩
  · exact ⟨PyProof.Rows.boot_list, by decide, by decide⟩
  · exact ⟨PyProof.Rows.boot_dict, by decide, by decide⟩
theorem s_ty (g : Good X E bl N sc so j Wx) {t : Tn} {x : Str} {pos : Pos} (ht : tnB t = some x) (hl : sc.names.lookup x = some .globalImplicit) (hb : x ∈ bl) : PE X (.Name x pos) (RdE (kg X) E Wx (.ty t)) := by
  obtain ⟨h1, h2, h3⟩ := tn_boot ht
  refine (pe_bltn (v := .ty (tnS t)) (show X.env.kindOf x = _ by rw [g.kind]; exact hl) (g.bl x hb) h1 rfl h2 h3).imp fun σ H Q h => ?_
  obtain ⟨W, G, S, rs, rh, f⟩ := h
  exact f W H (Frm.refl W H) rh _ (.ty t)
/-! ### operators -/
theorem two_ok {a b : C} {σ : St} {H : Hp} {Q : VK} {W : Wd} {G : Gam} {S : Sto} {h : D → D → Sto → R D} (n : ∀ x y S e S', h x y S ≠ .exc e S') (rs : RepS (kg X) W G σ) (rh : RepH (kg X) W S H)
    (f : FinE (kg X) Wx σ W H ((evalE E a G S).bind fun x S1 => (evalE E b G S1).bind fun y S2 => h x y S2) (fun d _ W' H' => ∀ v, RepV (kg X) W' d v → Q v H')) :
    tOp (rD2 (kg X) h) (RdE (kg X) E Wx a) (RdE (kg X) E Wx b) σ H Q := by
  refine ⟨W, G, S, rs, rh, f.bind.mono fun x S1 W1 H1 fr1 rh1 f1 v rv => ?_⟩
  refine ⟨W1, G, S1, rs.mono fr1.le, rh1, f1.bind.mono fun y S2 W2 H2 fr2 rh2 f2 w rw => ?_⟩
  exact ⟨W2, S2, x, y, rv.mono fr2.le, rw, rh2, f2.val (n x y S2)⟩
theorem s_bin {m : Bool} {o : Operator} {a b : C} {l r : Expr} {pos : Pos} (ha : PE X l (RdE (kg X) E Wx a)) (hb : PE X r (RdE (kg X) E Wx b)) : PE X (.BinOp l o r pos) (RdE (kg X) E Wx (.bin m o a b)) :=
  (pe_op (op_bin m o) ha hb).imp fun σ H Q ⟨W, G, S, rs, rh, f⟩ => two_ok (fun _ _ _ _ _ => binop_ne) rs rh f
theorem s_cmp (g : Good X E bl N sc so j Wx) {o : CmpOp} {a b : C} {l r : Expr} {pos : Pos} (hn : notSet r = true) (ha : PE X l (RdE (kg X) E Wx a)) (hb : PE X r (RdE (kg X) E Wx b)) : PE X (.Compare l [o] [r] pos) (RdE (kg X) E Wx (.cmp o a b)) :=
  (pe_cmpR (op_cmp g.units o) ha hb (noMarks hn)).imp fun σ H Q ⟨W, G, S, rs, rh, f⟩ => two_ok (fun _ _ _ _ _ => cmpop_ne) rs rh f
theorem s_ix {a b : C} {l r : Expr} {pos : Pos} (hn : notSlice r = true) (ha : PE X l (RdE (kg X) E Wx a)) (hb : PE X r (RdE (kg X) E Wx b)) : PE X (.Subscript l r pos) (RdE (kg X) E Wx (.ix a b)) :=
  (pe_ix ix_ok ha hb (plainIx hn)).imp fun σ H Q ⟨W, G, S, rs, rh, f⟩ => two_ok (fun _ _ _ _ _ => ixF_ne) rs rh f
theorem s_un {o : UnaryOp} {a : C} {l : Expr} {pos : Pos} (ha : PE X l (RdE (kg X) E Wx a)) : PE X (.UnaryOp o l pos) (RdE (kg X) E Wx (.un o a)) :=
  (pe_un (op_un o) ha).imp fun σ H Q ⟨W, G, S, rs, rh, f⟩ => ⟨W, G, S, rs, rh, (FinE.bind f).mono fun x S1 W1 H1 fr1 rh1 f1 v rv => ⟨W1, S1, x, rv, rh1, f1.val (fun _ _ => unop_ne)⟩⟩
/-- a test of a value -/
theorem s_truth {a : C} {l : Expr} (hp : plainT l = true) (ha : PE X l (RdE (kg X) E Wx a)) : PT X l (fun σ H Q => ∃ W G S, RepS (kg X) W G σ ∧ RepH (kg X) W S H ∧
    FinE (kg X) Wx σ W H (evalT E (.tv a) G S) (fun b _ _ H' => Q b H')) :=
  (pt_truth ha (plain_is hp)).imp fun σ H Q ⟨W, G, S, rs, rh, f⟩ => ⟨W, G, S, rs, rh, (FinE.bind f).mono fun x S1 W1 H1 fr1 rh1 f1 v rv => by
    cases q : truth S1 x with
    | none => rw [q] at f1; exact f1.elim
    | some c => rw [q] at f1; exact ⟨c, truth_ok rh1 rv q, f1 W1 H1 (Frm.refl W1 H1) rh1⟩⟩
theorem cmpop_of {o : CmpOp} {x y : D} {S : Sto} {c : Bool} (q : cmpB o x y S = some c) : cmpop o x y S = .ok (.bl c) S := by
  unfold cmpop
  rw [q]
theorem cmpop_bad {o : CmpOp} {x y : D} {S : Sto} (q : cmpB o x y S = none) : cmpop o x y S = .bad := by
  unfold cmpop
  rw [q]
theorem R.bind_ok {α β : Type} {r : R α} {f : α → Sto → R β} {b : β} {S' : Sto} (h : r.bind f = .ok b S') : ∃ a S, r = .ok a S ∧ f a S = .ok b S' := by
  cases r with
  | ok a S => exact ⟨a, S, rfl, h⟩
  | exc e S => cases h
  | bad => cases h
theorem FinE.monoE {α : Type} {k : Kg} {σ : St} {W0 : Wd} {H0 : Hp} {r : R α} {K K' : α → Sto → Wd → Hp → Prop} (h : FinE k Wx σ W0 H0 r K) (m : ∀ a S, r = .ok a S → ∀ W H, Frm W0 H0 W H → RepH k W S H → K a S W H → K' a S W H) : FinE k Wx σ W0 H0 r K' := by
  cases r with
  | ok a S => exact fun W H g q => m a S rfl W H g q (h W H g q)
  | exc e S => exact h
  | bad => exact h
theorem s_cmpT (g : Good X E bl N sc so j Wx) {o : CmpOp} {a b : C} {l r : Expr} {pos : Pos} (hn : notSet r = true) (ha : PE X l (RdE (kg X) E Wx a)) (hb : PE X r (RdE (kg X) E Wx b)) : PT X (.Compare l [o] [r] pos) (RdT (kg X) E Wx (.cmp o a b)) := by
  refine (pt_cmpR (op_cmp g.units o) ha hb (noMarks hn)).imp fun σ H Q ⟨W, G, S, rs, rh, f⟩ => ?_
  refine ⟨W, G, S, rs, rh, (FinE.bind f).mono fun x S1 W1 H1 fr1 rh1 f1 v rv => ?_⟩
  refine ⟨W1, G, S1, rs.mono fr1.le, rh1, f1.bind.mono fun y S2 W2 H2 fr2 rh2 f2 w rw => ?_⟩
  refine ⟨W2, S2, x, y, rv.mono fr2.le, rw, rh2, ?_⟩
  cases q : cmpB o x y S2 with
  | none => rw [q] at f2; exact f2.elim
  | some c =>
    rw [q] at f2
    rw [cmpop_of q]
    intro W3 H3 z fr3 rh3 rz
    cases rz
    exact ⟨c, rfl, f2 W3 H3 fr3 rh3⟩
/-- a op b op' c -/
theorem chain_ok {o o' : CmpOp} {a b c : C} {σ : St} {H : Hp} {Q : VK} {W : Wd} {G : Gam} {S : Sto} (rs : RepS (kg X) W G σ) (rh : RepH (kg X) W S H)
    (f : FinE (kg X) Wx σ W H (evalE E (.chain o o' a b c) G S) (fun d _ W' H' => ∀ v, RepV (kg X) W' d v → Q v H')) :
    tChain (rD2 (kg X) (cmpop o)) (rD2 (kg X) (cmpop o')) (RdE (kg X) E Wx a) (RdE (kg X) E Wx b) (RdE (kg X) E Wx c) σ H Q := by
  rw [evalE] at f
  refine ⟨W, G, S, rs, rh, f.bind.mono fun x S1 W1 H1 fr1 rh1 f1 v rv => ?_⟩
  refine ⟨W1, G, S1, rs.mono fr1.le, rh1, f1.bind.mono fun y S2 W2 H2 fr2 rh2 f2 w rw => ?_⟩
  cases q : cmpB o x y S2 with
  | none => rw [q] at f2; exact f2.elim
  | some k =>
    rw [q] at f2
    refine ⟨W2, S2, x, y, rv.mono fr2.le, rw, rh2, ?_⟩
    rw [cmpop_of q]
    intro W3 H3 z fr3 rh3 rz
    cases rz
    refine ⟨k, rfl, ?_⟩
    cases k with
    | false => exact iteF (f2 W3 H3 fr3 rh3 _ (.bl false))
    | true =>
      refine iteT ⟨W3, G, S2, rs.mono ((fr1.le.trans fr2.le).trans fr3.le), rh3, (FinE.step fr3 f2).bind.mono fun z S4 W4 H4 fr4 rh4 f4 u ru => ?_⟩
      exact ⟨W4, S4, y, z, rw.mono (fr3.le.trans fr4.le), ru, rh4, f4.val (fun _ _ => cmpop_ne)⟩
theorem lastM {o o' : CmpOp} {b c : Expr} (h : notSet c = true) : lastMarks [o, o'] [b, c] = false := noMarks h
theorem s_chain (g : Good X E bl N sc so j Wx) {o o' : CmpOp} {a b c : C} {l m r : Expr} {pos : Pos} (hn : notSet r = true) (ha : PE X l (RdE (kg X) E Wx a)) (hb : PE X m (RdE (kg X) E Wx b)) (hc : PE X r (RdE (kg X) E Wx c)) : PE X (.Compare l [o, o'] [m, r] pos) (RdE (kg X) E Wx (.chain o o' a b c)) :=
  (pe_chain (op_cmp g.units o) (op_cmp g.units o') ha hb hc (lastM hn)).imp fun σ H Q ⟨W, G, S, rs, rh, f⟩ => chain_ok rs rh f
theorem s_chainT (g : Good X E bl N sc so j Wx) {o o' : CmpOp} {a b c : C} {l m r : Expr} {pos : Pos} (hn : notSet r = true) (ha : PE X l (RdE (kg X) E Wx a)) (hb : PE X m (RdE (kg X) E Wx b)) (hc : PE X r (RdE (kg X) E Wx c)) : PT X (.Compare l [o, o'] [m, r] pos) (RdT (kg X) E Wx (.chain o o' a b c)) := by
  refine (pt_chain (op_cmp g.units o) (op_cmp g.units o') ha hb hc (lastM hn)).imp fun σ H Q ⟨W, G, S, rs, rh, f⟩ => ?_
  refine ⟨W, G, S, rs, rh, (FinE.bind f).mono fun x S1 W1 H1 fr1 rh1 f1 v rv => ?_⟩
  refine ⟨W1, G, S1, rs.mono fr1.le, rh1, f1.bind.mono fun y S2 W2 H2 fr2 rh2 f2 w rw => ?_⟩
  cases q : cmpB o x y S2 with
  | none => rw [q] at f2; exact f2.elim
  | some k =>
    rw [q] at f2
    refine ⟨W2, S2, x, y, rv.mono fr2.le, rw, rh2, ?_⟩
    rw [cmpop_of q]
    intro W3 H3 z fr3 rh3 rz
    cases rz
    refine ⟨k, rfl, ?_⟩
    cases k with
    | false => exact iteF ⟨false, rfl, f2 W3 H3 fr3 rh3⟩
    | true =>
      refine iteT ⟨W3, G, S2, rs.mono ((fr1.le.trans fr2.le).trans fr3.le), rh3, (FinE.step fr3 f2).bind.mono fun z S4 W4 H4 fr4 rh4 f4 u ru => ?_⟩
      refine ⟨W4, S4, y, z, rw.mono (fr3.le.trans fr4.le), ru, rh4, ?_⟩
      cases q : cmpB o' y z S4 with
      | none => rw [q] at f4; exact f4.elim
      | some c =>
        rw [q] at f4
        rw [cmpop_of q]
        intro W5 H5 z fr5 rh5 rz
        cases rz
        exact ⟨c, rfl, f4 W5 H5 fr5 rh5⟩
/-! ### and, or, not, if -/
theorem s_and {a b : C} {x y : Expr} {rest : List Expr} {pos : Pos} (ha : PE X x (RdE (kg X) E Wx a)) (hb : PE X (.BoolOp .And (y :: rest) pos) (RdE (kg X) E Wx b)) : PE X (.BoolOp .And (x :: y :: rest) pos) (RdE (kg X) E Wx (.and a b)) := by
  refine (pe_andT ha hb).imp fun σ H Q ⟨W, G, S, rs, rh, f⟩ => ?_
  rw [evalE] at f
  refine ⟨W, G, S, rs, rh, f.bind.mono fun x S1 W1 H1 fr1 rh1 f1 v rv => ?_⟩
  cases q : truth S1 x with
  | none => rw [q] at f1; exact f1.elim
  | some c =>
    rw [q] at f1
    refine ⟨c, truth_ok rh1 rv q, ?_⟩
    cases c with
    | true => exact iteT ⟨W1, G, S1, rs.mono fr1.le, rh1, f1⟩
    | false => exact iteF (f1 W1 H1 (Frm.refl W1 H1) rh1 v rv)
theorem s_or {a b : C} {x y : Expr} {rest : List Expr} {pos : Pos} (ha : PE X x (RdE (kg X) E Wx a)) (hb : PE X (.BoolOp .Or (y :: rest) pos) (RdE (kg X) E Wx b)) : PE X (.BoolOp .Or (x :: y :: rest) pos) (RdE (kg X) E Wx (.or a b)) := by
  refine (pe_orT ha hb).imp fun σ H Q ⟨W, G, S, rs, rh, f⟩ => ?_
  rw [evalE] at f
  refine ⟨W, G, S, rs, rh, f.bind.mono fun x S1 W1 H1 fr1 rh1 f1 v rv => ?_⟩
  cases q : truth S1 x with
  | none => rw [q] at f1; exact f1.elim
  | some c =>
    rw [q] at f1
    refine ⟨c, truth_ok rh1 rv q, ?_⟩
    cases c with
    | true => exact iteT (f1 W1 H1 (Frm.refl W1 H1) rh1 v rv)
    | false => exact iteF ⟨W1, G, S1, rs.mono fr1.le, rh1, f1⟩
theorem s_one {a : C} {x : Expr} {op : BoolOp} {pos : Pos} (ha : PE X x (RdE (kg X) E Wx a)) : PE X (.BoolOp op [x] pos) (RdE (kg X) E Wx (.one a)) :=
  (pe_one ha).imp fun σ H Q ⟨W, G, S, rs, rh, f⟩ => ⟨W, G, S, rs, rh, by rw [evalE] at f; exact f⟩
theorem s_not {a : C} {x : Expr} {pos : Pos} (ha : PE X x (RdE (kg X) E Wx a)) : PE X (.UnaryOp .Not x pos) (RdE (kg X) E Wx (.not a)) := by
  refine (pe_notT ha).imp fun σ H Q ⟨W, G, S, rs, rh, f⟩ => ?_
  rw [evalE] at f
  refine ⟨W, G, S, rs, rh, f.bind.mono fun x S1 W1 H1 fr1 rh1 f1 v rv => ?_⟩
  cases q : truth S1 x with
  | none => rw [q] at f1; exact f1.elim
  | some c =>
    rw [q] at f1
    exact ⟨c, truth_ok rh1 rv q, f1 W1 H1 (Frm.refl W1 H1) rh1 _ (.bl _)⟩
theorem s_ife {t a b : C} {c x y : Expr} {pos : Pos} (hc : PT X c (RdT (kg X) E Wx t)) (ha : PE X x (RdE (kg X) E Wx a)) (hb : PE X y (RdE (kg X) E Wx b)) : PE X (.IfExp c x y pos) (RdE (kg X) E Wx (.ife t a b)) := by
  refine (pe_ifExp hc ha hb).imp fun σ H Q ⟨W, G, S, rs, rh, f⟩ => ?_
  rw [evalE] at f
  refine ⟨W, G, S, rs, rh, f.bind.mono fun x S1 W1 H1 fr1 rh1 f1 => ?_⟩
  cases x with
  | true => exact iteT ⟨W1, G, S1, rs.mono fr1.le, rh1, by rw [if_pos rfl] at f1; exact f1⟩
  | false => exact iteF ⟨W1, G, S1, rs.mono fr1.le, rh1, by rw [if_neg Bool.false_ne_true] at f1; exact f1⟩
theorem s_notT {a : C} {x : Expr} {pos : Pos} (ha : PT X x (RdT (kg X) E Wx a)) : PT X (.UnaryOp .Not x pos) (RdT (kg X) E Wx (.not a)) := by
  refine (pt_not ha).imp fun σ H Q ⟨W, G, S, rs, rh, f⟩ => ?_
  rw [evalT] at f
  exact ⟨W, G, S, rs, rh, f.bind.mono fun x S1 W1 H1 fr1 rh1 f1 => f1 W1 H1 (Frm.refl W1 H1) rh1⟩
theorem s_andT {a b : C} {x y : Expr} {rest : List Expr} {pos : Pos} (ha : PT X x (RdT (kg X) E Wx a)) (hb : PW X (.BoolOp .And (y :: rest) pos) (RdT (kg X) E Wx b)) : PW X (.BoolOp .And (x :: y :: rest) pos) (RdT (kg X) E Wx (.and a b)) := by
  refine (pw_and ha hb).imp fun σ H Q ⟨W, G, S, rs, rh, f⟩ => ?_
  rw [evalT] at f
  refine ⟨W, G, S, rs, rh, f.bind.mono fun x S1 W1 H1 fr1 rh1 f1 => ?_⟩
  cases x with
  | true => exact iteT ⟨W1, G, S1, rs.mono fr1.le, rh1, by rw [if_pos rfl] at f1; exact f1⟩
  | false => exact iteF (by rw [if_neg Bool.false_ne_true] at f1; exact f1 W1 H1 (Frm.refl W1 H1) rh1)
theorem s_orT {a b : C} {x y : Expr} {rest : List Expr} {pos : Pos} (ha : PT X x (RdT (kg X) E Wx a)) (hb : PW X (.BoolOp .Or (y :: rest) pos) (RdT (kg X) E Wx b)) : PW X (.BoolOp .Or (x :: y :: rest) pos) (RdT (kg X) E Wx (.or a b)) := by
  refine (pw_or ha hb).imp fun σ H Q ⟨W, G, S, rs, rh, f⟩ => ?_
  rw [evalT] at f
  refine ⟨W, G, S, rs, rh, f.bind.mono fun x S1 W1 H1 fr1 rh1 f1 => ?_⟩
  cases x with
  | true => exact iteT (by rw [if_pos rfl] at f1; exact f1 W1 H1 (Frm.refl W1 H1) rh1)
  | false => exact iteF ⟨W1, G, S1, rs.mono fr1.le, rh1, by rw [if_neg Bool.false_ne_true] at f1; exact f1⟩
theorem s_oneT {a : C} {x : Expr} {op : BoolOp} {pos : Pos} (ha : PT X x (RdT (kg X) E Wx a)) : PW X (.BoolOp op [x] pos) (RdT (kg X) E Wx (.one a)) := by
  cases op with
  | And => exact (pw_and1 ha).imp fun σ H Q ⟨W, G, S, rs, rh, f⟩ => ⟨W, G, S, rs, rh, by rw [evalT] at f; exact f⟩
  | Or => exact (pw_or1 ha).imp fun σ H Q ⟨W, G, S, rs, rh, f⟩ => ⟨W, G, S, rs, rh, by rw [evalT] at f; exact f⟩
/-! ### arguments, displays, calls -/
theorem s_nil : PA X [] (RdA (kg X) E Wx .nil) :=
  pa_nil.imp fun σ H Q ⟨W, G, S, rs, rh, f⟩ => by rw [evalA] at f; exact f W H (Frm.refl W H) rh _ .nil
theorem s_cons {a as : C} {e : Expr} {es : List Expr} (hn : notStar e = true) (ha : PE X e (RdE (kg X) E Wx a)) (hr : PA X es (RdA (kg X) E Wx as)) : PA X (e :: es) (RdA (kg X) E Wx (.cons a as)) := by
  refine (pa_cons ha hr (star_cons hn)).imp fun σ H Q ⟨W, G, S, rs, rh, f⟩ => ?_
  rw [evalA] at f
  refine ⟨W, G, S, rs, rh, f.bind.mono fun x S1 W1 H1 fr1 rh1 f1 v rv => ?_⟩
  refine ⟨W1, G, S1, rs.mono fr1.le, rh1, f1.bind.mono fun xs S2 W2 H2 fr2 rh2 f2 vs rvs => ?_⟩
  exact f2 W2 H2 (Frm.refl W2 H2) rh2 _ (.cons (rv.mono fr2.le) rvs)
theorem s_tup {as : C} {es : List Expr} {n : Nat} {pos : Pos} (h : PA X es (RdA (kg X) E Wx as)) : PE X (.Tuple es n pos) (RdE (kg X) E Wx (.tup as)) := by
  refine (pe_tup h).imp fun σ H Q ⟨W, G, S, rs, rh, f⟩ => ?_
  rw [evalE] at f
  refine ⟨W, G, S, rs, rh, f.bind.mono fun xs S1 W1 H1 fr1 rh1 f1 vs rvs => ?_⟩
  split at f1
  · rename_i hl
    exact ⟨by rw [rvs.length]; exact lim_line hl, mkT_ok rh1 rvs (f1.val (fun _ _ => nofun))⟩
  · exact f1.elim
theorem s_lst {m : Bool} {as : C} {es : List Expr} {pos : Pos} (h : PA X es (RdA (kg X) E Wx as)) : PE X (.List es pos) (RdE (kg X) E Wx (.lst m as)) := by
  refine (pe_lst h).imp fun σ H Q ⟨W, G, S, rs, rh, f⟩ => ?_
  rw [evalE] at f
  refine ⟨W, G, S, rs, rh, f.bind.mono fun xs S1 W1 H1 fr1 rh1 f1 vs rvs => ?_⟩
  split at f1
  · rename_i hl
    exact ⟨by rw [rvs.length]; exact lim_line hl, mk_ok rh1 rvs (f1.val (fun _ _ => mk_ne))⟩
  · exact f1.elim
theorem s_bi (g : Good X E bl N sc so j Wx) {m : Bool} {f : Bi} {as : C} {e : Expr} {es : List Expr} {p pos : Pos} (hl : sc.names.lookup f.name = some .globalImplicit) (hb : f.name ∈ bl) (hn : (e :: es).all notStar = true) (h : PA X (e :: es) (RdA (kg X) E Wx as)) :
    PE X (.Call (.Name f.name p) (e :: es) [] pos) (RdE (kg X) E Wx (.bi m f as)) := by
  have hn' := hn
  simp only [List.all_cons, Bool.and_eq_true] at hn'
  have gl : Gl X f.name := (show X.env.kindOf f.name = _ by rw [g.kind]; exact hl)
  have key : PE X (.Call (.Name f.name p) (e :: es) [] pos) (tCB (rDL (kg X) (biF m f)) (RdA (kg X) E Wx as)) := by
    have b := f.boot
    have c := call_bi (X := X) g.calm g.gd g.units m f
    generalize hv : f.val = v at b c
    cases v with
    | builtin id => exact pe_callB c gl (g.bl _ hb) b h f.noName f.noDebug (star_cons hn'.1) (star_any hn'.2)
    | type T => exact pe_callTy c gl (g.bl _ hb) b h f.noName f.noDebug (star_cons hn'.1) (star_any hn'.2)
    | _ => exact absurd hv (by cases f <;> nofun)
  refine key.imp fun σ H Q ⟨W, G, S, rs, rh, f⟩ => ?_
  rw [evalE] at f
  exact ⟨W, G, S, rs, rh, f.bind.mono fun xs S1 W1 H1 fr1 rh1 f1 vs rvs => ⟨W1, S1, xs, rvs, rh1, f1.val (fun _ _ => biF_ne)⟩⟩
theorem s_me {f : Me} {o as : C} {ov e : Expr} {es : List Expr} {apos cpos : Pos} (hs : notSuper ov = true) (hn : (e :: es).all notStar = true) (hfew : (e :: es).length < 30) (hl : (apos.endLine == cpos.line) = true) (ho : PE X ov (RdE (kg X) E Wx o)) (ha : PA X (e :: es) (RdA (kg X) E Wx as)) :
    PE X (.Call (.Attribute ov f.name apos) (e :: es) [] cpos) (RdE (kg X) E Wx (.me f o as)) := by
  have hn' := hn
  simp only [List.all_cons, Bool.and_eq_true] at hn'
  refine (pe_bm f.plain f.slot f.typ (call_me f) ho ha (base_is hs _) ?_ hl (star_cons hn'.1) (star_any hn'.2)).imp fun σ H Q ⟨W, G, S, rs, rh, f⟩ => ?_
  · rw [star_all hn]
    have z : decide ((e :: es).length + ([] : List Keyword).length + (if ([] : List Keyword).isEmpty then 0 else 1) < 30) = true := by
      rw [decide_eq_true_eq]
      exact hfew
    rw [z]
    rfl
  · rw [evalE] at f
    refine ⟨W, G, S, rs, rh, f.bind.mono fun x S1 W1 H1 fr1 rh1 f1 v rv => ?_⟩
    split at f1
    · rename_i ht
      refine ⟨isT_ok rh1 rv ht, W1, G, S1, rs.mono fr1.le, rh1, f1.bind.mono fun xs S2 W2 H2 fr2 rh2 f2 vs rvs => ?_⟩
      exact ⟨W2, S2, x, xs, rv.mono fr2.le, rvs, rh2, f2.val (fun _ _ => meF_ne)⟩
    · exact f1.elim
/-- the call of a def of the module -/
theorem s_call (g : Good X E bl N sc so j Wx) {f : Str} {as : C} {e : Expr} {es : List Expr} {p pos : Pos} (hl : sc.names.lookup f = some .globalImplicit) (hd : (f == ("__debug__" : Str)) = false) (hn : (e :: es).all notStar = true) (h : PA X (e :: es) (RdA (kg X) E Wx as)) :
    PE X (.Call (.Name f p) (e :: es) [] pos) (RdE (kg X) E Wx (.call f as)) := by
  refine ⟨fun pins s σ H Q I q => ?_⟩
  obtain ⟨W, G, S, rs, rh, fi⟩ := q
  rw [evalE] at fi
  have hn' := hn
  simp only [List.all_cons, Bool.and_eq_true] at hn'
  have gl : Gl X f := (show X.env.kindOf f = _ by rw [g.kind]; exact hl)
  cases q : E.fn f with
  | none =>
    rw [q] at fi
    exact fi.elim
  | some h2 =>
    rw [q] at fi
    obtain ⟨fa, fd, ps, h1, h3, h4, h5, h6⟩ := g.fn f h2 q
    refine wpAny_Call_Name_kw (ld_glob I gl h1 ?_ hd)
    refine PySem.W.callWith_K (h₀ := X.base) I.ok.mod.kin h3 (thn (h.run pos pins s σ H _ I ⟨W, G, S, rs, rh, fi.bind.mono fun ds S1 W1 H1 fr1 rh1 f1 vs rvs => (⟨W1, S1, ds, rvs, rh1, f1⟩ : ∃ W1 S1 ds, RepVs (kg X) W1 ds vs ∧ RepH (kg X) W1 S1 H1 ∧ FinE (kg X) Wx σ W1 H1 (h2 ds S1) _)⟩) fun us s1 ⟨vs, H1, I1, r, q⟩ => ⟨I1.kIn, ?_⟩) (star_cons hn'.1) (star_any hn'.2)
    obtain ⟨W1, S1, ds, rvs, rh1, f1⟩ := q
    refine run_fnG h6 g.room g.gd h4 g.tk I1 r ⟨W1, S1, ds, h5 ds S1 (fun z => ?_), rvs, rh1, ?_⟩
    · rw [z] at f1; exact f1
    · cases z : h2 ds S1 with
      | ok d S2 => rw [z] at f1; exact f1
      | exc e S2 => rw [z] at f1; exact f1
      | bad => rw [z] at f1; exact f1
end
end Itp

namespace Itp
open PySem PySem.Spec L2
variable {X : Cx} {E : Ev} {bl N : List Str} {sc so : Scope} {j : Nat} {Wx : WX}
/-! ### targets -/
theorem SlotEq.refl (vs : List Nat) (σ : St) : SlotEq vs σ σ := ⟨rfl, fun _ _ => rfl⟩
theorem SlotEq.trans {vs ws : List Nat} {σ σ1 σ2 : St} (a : SlotEq vs σ σ1) (b : SlotEq ws σ1 σ2) : SlotEq (vs ++ ws) σ σ2 :=
  ⟨b.1.trans a.1, fun i h => (b.2 i (fun z => h (List.mem_append_right _ z))).trans (a.2 i (fun z => h (List.mem_append_left _ z)))⟩
theorem s_tn (g : Good X E bl N sc so j Wx) {i : Nat} {x : Str} {pos : Pos} (hi : N[i]? = some x) (hl : Loc so x) : PG X (.Name x pos) (RdG (kg X) (.tn i)) := by
  obtain ⟨hl, hf⟩ := g.loc x hl
  rw [← g.hs] at hl hf
  refine (pg_name (i := i) (by rw [g.hN]; exact g.nd) (by rw [g.hN]; exact hi) hl hf).imp fun v σ H Q ⟨W, G, S, d, rs, rh, rv, G', e, q⟩ => ?_
  cases e
  exact q _ (rs.set rv i) ⟨by simp, fun k hk => by
    have : k ≠ i := by simpa [slots] using hk
    rw [List.getElem?_set_ne (Ne.symm this)]⟩
theorem s_gnil : PGs X [] (RdGs (kg X) .nil) := by
  refine pgs_nil.imp fun vs σ H Q ⟨W, G, S, ds, rs, rh, rv, G', e, q⟩ => ?_
  cases rv with
  | nil => cases e; exact ⟨rfl, q σ rs (SlotEq.refl _ _)⟩
  | cons => cases e
theorem s_gcons {t ts : C} {e : Expr} {es : List Expr} (hn : notStar e = true) (h1 : PG X e (RdG (kg X) t)) (h2 : PGs X es (RdGs (kg X) ts)) : PGs X (e :: es) (RdGs (kg X) (.cons t ts)) := by
  refine (pgs_cons h1 h2 (by cases e <;> first | rfl | cases hn)).imp fun vs σ H Q ⟨W, G, S, ds, rs, rh, rv, G', e, q⟩ => ?_
  cases rv with
  | nil => cases e
  | @cons d ds v vs r1 r2 =>
    have e : ((asgG t d G).bind fun G1 => asgGs ts ds G1) = some G' := e
    obtain ⟨G1, e1, e2⟩ := Option.bind_eq_some_iff.mp e
    exact ⟨v, vs, rfl, W, G, S, d, rs, rh, r1, G1, e1, fun σ1 rs1 s1 => ⟨W, G1, S, ds, rs1, rh, r2, G', e2, fun σ2 rs2 s2 => q σ2 rs2 (s1.trans s2)⟩⟩
theorem each_len {env : Env} : ∀ {es : List Expr}, (assignEach es env).length = es.length
  | [] => rfl
  | e :: es => by
    have ih := each_len (env := env) (es := es)
    cases e <;> (show (_ :: assignEach es env).length = _; rw [List.length_cons, List.length_cons, ih])
theorem each_star {env : Env} : ∀ {es : List Expr}, es.all notStar = true → (assignEach es env).findIdx? (·.1) = none
  | [], _ => rfl
  | e :: es, h => by
    simp only [List.all_cons, Bool.and_eq_true] at h
    have ih := each_star (env := env) h.2
    have z : assignEach (e :: es) env = (false, assign e env) :: assignEach es env := by
      cases e <;> first | rfl | cases h.1
    rw [z, List.findIdx?_cons]
    simp [ih]
/-- a target's width -/
def widthG : C → Nat
  | .cons _ ts => widthG ts + 1
  | _ => 0
theorem asgGs_len : ∀ {ts : C} {ds : List D} {G G' : Gam}, asgGs ts ds G = some G' → ds.length = widthG ts := by
  intro ts
  induction ts with
  | nil => intro ds G G' e; cases ds with
    | nil => rfl
    | cons => cases e
  | cons t ts _ ih =>
    intro ds G G' e
    cases ds with
    | nil => cases e
    | cons d ds =>
      have e : ((asgG t d G).bind fun G1 => asgGs ts ds G1) = some G' := e
      obtain ⟨G1, e1, e2⟩ := Option.bind_eq_some_iff.mp e
      show ds.length + 1 = widthG ts + 1
      rw [ih e2]
  | _ => intro ds G G' e; cases ds <;> cases e
theorem s_tt (g : Good X E bl N sc so j Wx) {ts : C} {es : List Expr} {n : Nat} {pos : Pos} (hn : es.all notStar = true) (hw : es.length = widthG ts) (h : PGs X es (RdGs (kg X) ts)) : PG X (.Tuple es n pos) (RdG (kg X) (.tt ts)) := by
  refine (pg_tup g.calm h each_len (each_star hn)).imp fun v σ H Q ⟨W, G, S, d, rs, rh, rv, G', e, q⟩ => ?_
  cases d with
  | tup ds =>
    have e : asgGs ts ds G = some G' := e
    cases rv with
    | tup h1 r1 =>
      refine ⟨_, _, rfl, SqT.real rh h1, ?_, W, G, S, ds, rs, rh, r1, G', e, q⟩
      rw [r1.length, asgGs_len e, hw]
  | _ => cases e
/-! ### what is walked -/
theorem s_range1 (g : Good X E bl N sc so j Wx) {a : C} {e : Expr} {tg : Expr} {p pos : Pos} (hl : sc.names.lookup ("range" : Str) = some .globalImplicit) (hb : ("range" : Str) ∈ bl) (hn : notStar e = true) (h : PE X e (RdE (kg X) E Wx a)) :
    PI X tg (.Call (.Name "range" p) [e] [] pos) (RdI (kg X) E Wx (.range1 a)) := by
  refine (pi_range1 (show X.env.kindOf ("range" : Str) = _ by rw [g.kind]; exact hl) (g.bl _ hb) (pa_cons h pa_nil (star_cons hn)) (star_cons hn)).imp fun σ H R ⟨W, G, S, rs, rh, f⟩ => ?_
  refine ⟨W, G, S, rs, rh, (FinE.bind f).mono fun x S1 W1 H1 fr1 rh1 f1 v rv => ?_⟩
  cases rv with
  | int i =>
    dsimp only at f1
    split at f1
    · rename_i hc
      refine ⟨i, rfl, hc.1, hc.2, f1 W1 H1 (Frm.refl W1 H1) rh1 _ fun n W2 S2 H2 le rh2 => ⟨fun e => ?_, fun d hd => ?_⟩⟩
      · subst e
        show i.toNat ≤ _
        simp [rangeD]
      · unfold rangeD at hd
        rw [List.getElem?_map] at hd
        obtain ⟨m, hm, rfl⟩ := Option.map_eq_some_iff.mp hd
        obtain ⟨hlt, rfl⟩ := List.getElem?_eq_some_iff.mp hm
        rw [List.length_range] at hlt
        refine ⟨hlt, fun x H' y => ?_⟩
        obtain ⟨rfl, rfl⟩ := y
        rw [List.getElem_range]
        exact ⟨W2, Frm.refl _ _, rh2, .int _⟩
    · exact f1.elim
  | _ => exact f1.elim
theorem s_range2 (g : Good X E bl N sc so j Wx) {a b : C} {e e' : Expr} {tg : Expr} {p pos : Pos} (hl : sc.names.lookup ("range" : Str) = some .globalImplicit) (hb : ("range" : Str) ∈ bl) (hn : notStar e = true) (hn' : notStar e' = true) (h : PE X e (RdE (kg X) E Wx a)) (h' : PE X e' (RdE (kg X) E Wx b)) :
    PI X tg (.Call (.Name "range" p) [e, e'] [] pos) (RdI (kg X) E Wx (.range2 a b)) := by
  refine (pi_range2 (show X.env.kindOf ("range" : Str) = _ by rw [g.kind]; exact hl) (g.bl _ hb) (pa_cons h (pa_cons h' pa_nil (star_cons hn')) (star_cons hn)) (by rw [star_cons hn, star_cons hn']; rfl) (star_cons hn')).imp fun σ H R ⟨W, G, S, rs, rh, f⟩ => ?_
  refine ⟨W, G, S, rs, rh, (FinE.bind f).mono fun x S1 W1 H1 fr1 rh1 f1 v rv => ?_⟩
  refine ⟨W1, G, S1, rs.mono fr1.le, rh1, f1.bind.mono fun y S2 W2 H2 fr2 rh2 f2 w rw => ?_⟩
  cases rv with
  | int i =>
    cases rw with
    | int k =>
      dsimp only at f2
      split at f2
      · rename_i hc
        refine ⟨i, k, rfl, hc, f2 W2 H2 (Frm.refl W2 H2) rh2 _ fun n W3 S3 H3 le rh3 => ⟨fun e => ?_, fun d hd => ?_⟩⟩
        · subst e
          show (k - i).toNat ≤ _
          simp [rangeD]
        · unfold rangeD at hd
          rw [List.getElem?_map] at hd
          obtain ⟨m, hm, rfl⟩ := Option.map_eq_some_iff.mp hd
          obtain ⟨hlt, rfl⟩ := List.getElem?_eq_some_iff.mp hm
          rw [List.length_range] at hlt
          refine ⟨hlt, fun x H' y => ?_⟩
          obtain ⟨rfl, rfl⟩ := y
          rw [List.getElem_range]
          exact ⟨W3, Frm.refl _ _, rh3, .int _⟩
      · exact f2.elim
    | _ => exact f2.elim
  | _ => cases rw <;> exact f2.elim
/-- a list or a tuple, as a value -/
def iSeq (K : PySem.W.Frag) (tl : TE) : TI := fun σ H R => tl σ H fun x H1 => ∃ a, x = .ref a ∧ (((∃ xs, SqL K H1 a xs) ∧ R (Itl K a) H1) ∨ ((∃ xs, SqT K H1 a xs) ∧ R (Itt K a) H1))
theorem pi_seq {tg l : Expr} {tl : TE} (hl : PE X l tl) : PI X tg l (iSeq X.K tl) := by
  refine ⟨fun pins s σ H R I h => ?_⟩
  refine thn (hl.run pins s σ H _ I h) fun v s1 ⟨x, H1, I1, r1, a, e, q⟩ => ?_
  subst e
  cases r1
  have fp : ∀ b ∈ [s1.heap.objs.size], FpOk X pins H1 b := fun b hb => by
    have e : b = s1.heap.objs.size := by simpa using hb
    subst e
    exact I1.fpOk (Nat.le_refl _) (I1.hok.fresh (Nat.le_refl _))
  rcases q with ⟨⟨xs, hq⟩, q⟩ | ⟨⟨xs, hq⟩, q⟩
  · obtain ⟨its, rv, p, hz⟩ := I1.list hq
    refine wpAny_pyIter_list p.isList ?_
    exact ⟨s1.heap.objs.size, [s1.heap.objs.size], _, _, H1, rfl, I1.kept (t' := s1.toks) fun b o e => Heap.get?_push_of_some _ e, turn_list a _, ⟨_, Heap.get?_push_size _ rfl, rfl, rfl⟩, fp, q⟩
  · obtain ⟨its, rv, p, hz⟩ := I1.tuple hq
    refine wpAny_pyIter_tuple (show s1.heap.IsTuple a its.toArray from p) ?_
    exact ⟨s1.heap.objs.size, [s1.heap.objs.size], _, _, H1, rfl, I1.kept (t' := s1.toks) fun b o e => Heap.get?_push_of_some _ e, turn_tuple a _, ⟨_, Heap.get?_push_size _ rfl, rfl, rfl⟩, fp, q⟩
theorem s_over {a : C} {e tg : Expr} (h : PE X e (RdE (kg X) E Wx a)) : PI X tg e (RdI (kg X) E Wx (.over a)) := by
  refine (pi_seq h).imp fun σ H R ⟨W, G, S, rs, rh, f⟩ => ?_
  refine ⟨W, G, S, rs, rh, (FinE.bind f).mono fun x S1 W1 H1 fr1 rh1 f1 v rv => ?_⟩
  cases rv with
  | @lst ds a vs h1 r1 =>
    refine ⟨a, rfl, .inl ⟨⟨vs, .inl (.inl (rh1.fr _ _ h1))⟩, f1 W1 H1 (Frm.refl W1 H1) rh1 _ fun n W2 S2 H2 le rh2 => ⟨fun e => ?_, fun d hd => ?_⟩⟩⟩
    · exact ⟨vs, .inl (.inl (rh2.fr _ _ (le.fr _ _ h1))), by rw [e, r1.length]; exact Nat.le_refl _⟩
    · obtain ⟨z, hz, rz⟩ := (r1.mono le).get hd
      refine ⟨⟨vs, z, .inl (.inl (rh2.fr _ _ (le.fr _ _ h1))), hz⟩, fun x H' y => ?_⟩
      obtain ⟨rfl, y⟩ := y
      have e := y vs (.inl (.inl (rh2.fr _ _ (le.fr _ _ h1))))
      rw [hz] at e
      cases e
      exact ⟨W2, Frm.refl _ _, rh2, rz⟩
  | @tup ds a vs h1 r1 =>
    have at_ : ∀ {W2 : Wd} {S2 : Sto} {H2 : Hp}, W1.le W2 → RepH (kg X) W2 S2 H2 → SqT X.K H2 a vs := fun le rh2 => SqT.real rh2 (sqT_mono h1 le.fr)
    refine ⟨a, rfl, .inr ⟨⟨vs, at_ (Wd.le.refl _) rh1⟩, f1 W1 H1 (Frm.refl W1 H1) rh1 _ fun n W2 S2 H2 le rh2 => ⟨fun e => ?_, fun d hd => ?_⟩⟩⟩
    · exact ⟨vs, at_ le rh2, by rw [e, r1.length]; exact Nat.le_refl _⟩
    · obtain ⟨z, hz, rz⟩ := (r1.mono le).get hd
      refine ⟨⟨vs, z, at_ le rh2, hz⟩, fun x H' y => ?_⟩
      obtain ⟨rfl, y⟩ := y
      have e := y vs (at_ le rh2)
      rw [hz] at e
      cases e
      exact ⟨W2, Frm.refl _ _, rh2, rz⟩
  | _ => exact f1.elim
theorem s_overS {a : C} {e tg : Expr} (h : PE X e (RdE (kg X) E Wx a)) : PI X tg e (RdI (kg X) E Wx (.overS a)) := by
  refine (pi_str h).imp fun σ H R ⟨W, G, S, rs, rh, f⟩ => ?_
  refine ⟨W, G, S, rs, rh, (FinE.bind f).mono fun x S1 W1 H1 fr1 rh1 f1 v rv => ?_⟩
  cases rv with
  | str z =>
    refine ⟨z, rfl, f1 W1 H1 (Frm.refl W1 H1) rh1 _ fun n W2 S2 H2 le rh2 => ⟨fun e => ?_, fun d hd => ?_⟩⟩
    · subst e
      show z.cps.size ≤ _
      simp
    · rw [List.getElem?_map] at hd
      obtain ⟨c, hc, rfl⟩ := Option.map_eq_some_iff.mp hd
      have hlt : n < z.cps.size := by
        have := (List.getElem?_eq_some_iff.mp hc).1
        simpa using this
      refine ⟨hlt, fun x H' y => ?_⟩
      obtain ⟨rfl, c', e1, rfl⟩ := y
      have : c' = c := by
        rw [← Array.getElem?_toList, hc] at e1
        exact (Option.some.inj e1).symm
      subst this
      exact ⟨W2, Frm.refl _ _, rh2, .str _⟩
  | _ => exact f1.elim
end Itp

namespace Itp
open PySem PySem.Spec L2
variable {X : Cx} {E : Ev} {bl N : List Str} {sc so : Scope} {j : Nat} {Wx : WX}
abbrev W0x : WX := fun _ _ _ _ => False
/-! ### comprehensions -/
theorem Good.blk (g : Good X E bl N sc so j Wx) {scope : Scope} {own : List (Str × Nat)} (ok : BlkOk N sc scope own) (s : Shared) (H : Hp) (C : Addr) (cl : List (Str × Addr)) (fp : List Addr) :
    Good (X.blk s H scope (compEnvC scope cl C X.env) fp) E bl N (relS scope sc) scope j W0x where
  hN := g.hN
  hs := by
    have : (compEnvC scope cl C X.env).scope = relS scope X.env.scope := rfl
    show (compEnvC scope cl C X.env).scope = _
    rw [this, g.hs]
  hk := ok.kind
  nd := g.nd
  calm := g.calm
  room := g.room
  gd := g.gd
  bl := g.bl
  cst := g.cst
  fn := g.fn
  pass := PassesOwn.never
  tk := takes0
  loc := fun x hx => by
    rcases hx with hx | hx
    · have e := lookup_relS_keep (sc := sc) (by decide) hx
      exact ⟨.inl e, .inr e⟩
    · have e := lookup_relS_keep (sc := sc) (by decide) hx
      exact ⟨.inr e, .inl (by show (scope.names.lookup x == some .cell) = true; rw [hx]; rfl)⟩
theorem wipe_get {σ : St} {i : Nat} : ∀ {vs : List Nat}, i ∈ vs → i < σ.length → (wipe σ vs)[i]? = some none
  | v :: vs, h, hl => by
    unfold wipe
    by_cases e : v = i
    · subst e
      rw [List.getElem?_set_self (by rw [wipe_length]; exact hl)]
    · rw [List.getElem?_set_ne e]
      exact wipe_get (by simpa [Ne.symm e] using h) hl
theorem wipe_eq {σ σ2 : St} {vs ws : List Nat} (h : SlotEq ws (wipe σ vs) σ2) (hs : ∀ i ∈ ws, i ∈ vs) : wipe σ2 vs = wipe σ vs := by
  apply List.ext_getElem?
  intro i
  have hl : σ2.length = σ.length := by rw [h.1, wipe_length]
  by_cases hv : i ∈ vs
  · by_cases hi : i < σ.length
    · rw [wipe_get hv hi, wipe_get hv (by omega)]
    · rw [List.getElem?_eq_none (by rw [wipe_length]; omega), List.getElem?_eq_none (by rw [wipe_length]; omega)]
  · rw [wipe_out hv, h.2 i (fun z => hv (hs i z))]
theorem wipeG_some {G : Gam} {i : Nat} {x : D} : ∀ {vs : List Nat}, (wipeG G vs)[i]? = some (some x) → G[i]? = some (some x) ∧ i ∉ vs
  | [], h => ⟨h, by simp⟩
  | v :: vs, h => by
    unfold wipeG at h
    by_cases hi : v = i
    · subst hi
      by_cases hv : v < (wipeG G vs).length
      · rw [List.getElem?_set_self hv] at h; cases h
      · rw [List.getElem?_eq_none (by simpa using hv)] at h; cases h
    · rw [List.getElem?_set_ne hi] at h
      obtain ⟨h1, h2⟩ := wipeG_some h
      exact ⟨h1, by simp only [List.mem_cons, not_or]; exact ⟨fun e => hi e.symm, h2⟩⟩
theorem wipeG_length (G : Gam) : ∀ vs : List Nat, (wipeG G vs).length = G.length
  | [] => rfl
  | v :: vs => by unfold wipeG; rw [List.length_set, wipeG_length G vs]
theorem RepS.wipe {k : Kg} {W : Wd} {G : Gam} {σ : St} (h : RepS k W G σ) (vs : List Nat) : RepS k W (wipeG G vs) (L2.wipe σ vs) := by
  refine ⟨by rw [wipeG_length, wipe_length]; exact h.1, fun i d e => ?_⟩
  obtain ⟨e1, e2⟩ := wipeG_some e
  obtain ⟨v, h1, h2⟩ := h.2 i d e1
  exact ⟨v, by rw [wipe_out e2]; exact h1, h2⟩
theorem s_tests0 {k : Kg} : PTs X [] (RdT (kg X) E Wx .nil) := by
  refine ⟨fun pins s σ H Q I ⟨W, G, S, rs, rh, f⟩ => pts_nil.run pins s σ H Q I ?_⟩
  exact f W H (Frm.refl W H) rh
theorem s_tests1 {t : C} {c : Expr} (h : PT X c (RdT (kg X) E Wx t)) : PTs X [c] (RdT (kg X) E Wx t) := pts_one h
/-- one turn of a comprehension -/
def lcTurn (E : Ev) (tg ts e : C) (G0 : Gam) (d : D) (S : Sto) : R (Option D) := match asgG tg d G0 with
  | none => .bad
  | some G1 => (evalT E ts G1 S).bind fun c S1 => if c = true then (evalE E e G1 S1).bind fun y S2 => .ok (some y) S2 else .ok none S1
theorem s_lc (g : Good X E bl N sc so j Wx) {m : Bool} {own : List (Str × Nat)} {tg it ts e : C} {elt tgE iter : Expr} {ifs : List Expr} {scope : Scope} {pos : Pos} (ok : BlkOk N sc scope own) (hn : notSet iter = true) (hsub : ∀ i ∈ slots tg, i ∈ own.map (·.2))
    (hi : PI X tgE iter (RdI (kg X) E Wx it)) (hg : ∀ s H C cl fp, PG (X.blk s H scope (compEnvC scope cl C X.env) fp) tgE (RdG (kg X) tg))
    (ht : ∀ s H C cl fp, PTs (X.blk s H scope (compEnvC scope cl C X.env) fp) ifs (RdT (kg X) E W0x ts)) (he : ∀ s H C cl fp, PE (X.blk s H scope (compEnvC scope cl C X.env) fp) elt (RdE (kg X) E W0x e)) :
    (PE X (.ListComp elt [⟨tgE, iter, ifs, 0⟩] scope pos) (tLc (RdI (kg X) E Wx it) (RdG (kg X) tg) (RdT (kg X) E W0x ts) (RdE (kg X) E W0x e) (own.map (·.2)))) ∧
    ∀ σ H Q, RdE (kg X) E Wx (.lc m own tg it ts e) σ H Q → tLc (RdI (kg X) E Wx it) (RdG (kg X) tg) (RdT (kg X) E W0x ts) (RdE (kg X) E W0x e) (own.map (·.2)) σ H Q := by
  refine ⟨pe_lc g.calm (by rw [g.hN]; exact g.nd) hi (by rw [g.hN, g.hs]; exact ok) hg ht he (noFold hn), fun σ H Q ⟨W, G, S, rs, rh, f⟩ => ?_⟩
  have f : FinE (kg X) Wx σ W H ((evalI E it G S).bind fun ds S1 => (lcLoop (lcTurn E tg ts e (wipeG G (own.map (·.2)))) ds [] S1).bind fun acc S2 => mk m acc S2) (fun d _ W' H' => ∀ v, RepV (kg X) W' d v → Q v H') := f
  refine ⟨W, G, S, rs, rh, f.bind.mono fun ds S1 W1 H1 fr1 rh1 f1 J wd D hD => ?_⟩
  generalize hv : own.map (·.2) = vs at f1 hsub ⊢
  have rs1 : RepS (kg X) W1 G σ := rs.mono fr1.le
  refine ⟨fun i n H => n = ds.length - i ∧ i ≤ ds.length ∧ ∃ W2 S2 acc us, Frm W1 H1 W2 H ∧ RepH (kg X) W2 S2 H ∧ W2.fr D = none ∧ D ∉ W2.io ∧ H D = some (.lst us) ∧ RepVs (kg X) W2 acc us ∧
      FinE (kg X) Wx σ W1 H1 ((lcLoop (lcTurn E tg ts e (wipeG G vs)) (ds.drop i) acc S2).bind fun acc S2 => mk m acc S2) (fun d _ W' H' => ∀ v, RepV (kg X) W' d v → Q v H'),
    ⟨ds.length, by simp, Nat.zero_le _, W1, S1, [], [], Frm.priv hD, rh1.priv (rh1.frNone hD) (rh1.ioNo hD), rh1.frNone hD, rh1.ioNo hD, upd_same, .nil, f1⟩, ?_⟩
  rintro i n H2 ⟨rfl, hile, W2, S2, acc, us, fr2, rh2, hf, hio, hHD, racc, fi⟩
  obtain ⟨hstop, hgo⟩ := wd i W2 S2 H2 fr2.le rh2
  by_cases hlt : i < ds.length
  · refine .inr ⟨(hgo ds[i] (by simp [hlt])).1, fun H' => ∃ W2 S2 acc us, Frm W1 H1 W2 H' ∧ RepH (kg X) W2 S2 H' ∧ W2.fr D = none ∧ D ∉ W2.io ∧ H' D = some (.lst us) ∧ RepVs (kg X) W2 acc us ∧
      FinE (kg X) Wx σ W1 H1 ((lcLoop (lcTurn E tg ts e (wipeG G vs)) (ds.drop (i + 1)) acc S2).bind fun acc S2 => mk m acc S2) (fun d _ W' H' => ∀ v, RepV (kg X) W' d v → Q v H'),
      fun H' z => ⟨ds.length - (i + 1), by omega, rfl, hlt, z⟩, fun x H3 hy => ?_⟩
    obtain ⟨W3, fr3, rh3, rx⟩ := (hgo ds[i] (by simp [hlt])).2 x H3 hy
    have ed : ds.drop i = ds[i] :: ds.drop (i + 1) := List.drop_eq_getElem_cons hlt
    rw [ed] at fi
    -- from a later world: the private list is still there
    have priv : ∀ {W5 : Wd} {H5 : Hp}, Frm W2 H2 W5 H5 → W5.fr D = none ∧ D ∉ W5.io ∧ H5 D = some (.lst us) := fun {W5 H5} fr5 => by
      refine ⟨?_, fun z => ?_, fr5.keep D _ hHD hio⟩
      · cases e : W5.fr D with
        | none => rfl
        | some o =>
          rcases fr5.newf D o e with z | z | z
          · rw [hf] at z; cases z
          · exact absurd z hio
          · rw [hHD] at z; cases z
      · rcases fr5.new D z with z | z
        · exact hio z
        · rw [hHD] at z; cases z
    cases hG : asgG tg ds[i] (wipeG G vs) with
    | none =>
      rw [lcLoop, lcTurn, hG] at fi
      exact fi.elim
    | some G1 =>
      have et : lcTurn E tg ts e (wipeG G vs) ds[i] S2 = (evalT E ts G1 S2).bind fun c S1 => if c = true then (evalE E e G1 S1).bind fun y S2 => .ok (some y) S2 else .ok none S1 := by
        rw [lcTurn, hG]
      refine ⟨W3, wipeG G vs, S2, ds[i], (rs1.mono (fr2.le.trans fr3.le)).wipe vs, rh3, rx, G1, hG, fun σ2 rs2 sl => ⟨wipe_eq sl hsub, W3, G1, S2, rs2, rh3, ?_⟩⟩
      cases hT : evalT E ts G1 S2 with
      | bad => rw [lcLoop, et, hT] at fi; exact fi.elim
      | exc e S3 => rw [lcLoop, et, hT] at fi; exact fi.elim
      | ok c S3 =>
        intro W4 H4 fr4 rh4
        cases c with
        | false =>
          refine iteF ?_
          obtain ⟨p1, p2, p3⟩ := priv (fr3.trans fr4)
          refine ⟨W4, S3, acc, us, fr2.trans (fr3.trans fr4), rh4, p1, p2, p3, racc.mono (fr3.le.trans fr4.le), ?_⟩
          rw [lcLoop, et, hT] at fi
          exact fi
        | true =>
          refine iteT ⟨W4, G1, S3, rs2.mono fr4.le, rh4, ?_⟩
          cases hE : evalE E e G1 S3 with
          | bad =>
            have et2 : lcTurn E tg ts e (wipeG G vs) ds[i] S2 = .bad := by rw [et, hT]; show R.bind (evalE E e G1 S3) _ = _; rw [hE]; rfl
            rw [lcLoop, et2] at fi; exact fi.elim
          | exc ex S4 =>
            have et2 : lcTurn E tg ts e (wipeG G vs) ds[i] S2 = .exc ex S4 := by rw [et, hT]; show R.bind (evalE E e G1 S3) _ = _; rw [hE]; rfl
            rw [lcLoop, et2] at fi; exact fi.elim
          | ok y S4 =>
            have et2 : lcTurn E tg ts e (wipeG G vs) ds[i] S2 = .ok (some y) S4 := by rw [et, hT]; show R.bind (evalE E e G1 S3) _ = _; rw [hE]; rfl
            rw [lcLoop, et2] at fi
            dsimp only at fi
            split at fi
            · rename_i hl
              intro W5 H5 fr5 rh5 v rv
              have fr25 := (fr3.trans fr4).trans fr5
              obtain ⟨p1, p2, p3⟩ := priv fr25
              refine ⟨us, p3, by rw [racc.length]; exact Nat.lt_of_lt_of_le hl (lim_line (Nat.le_refl _)), W5, S4, acc ++ [y], us ++ [v], (fr2.trans fr25).again hD, rh5.priv p1 p2, p1, p2, upd_same, (racc.mono fr25.le).snoc rv, fi⟩
            · exact fi.elim
  · have e : i = ds.length := by omega
    refine .inl ⟨hstop e, ?_⟩
    rw [e, List.drop_length] at fi
    have fi : FinE (kg X) Wx σ W1 H1 (mk m acc S2) (fun d _ W' H' => ∀ v, RepV (kg X) W' d v → Q v H') := fi
    unfold mk at fi
    cases m with
    | true =>
      refine fi (W2.add D) H2 ⟨fr2.le.trans add_le, fr2.keep, fun a ha => ?_, fr2.newf⟩ (rh2.addAt hHD hf hio (.lst racc)) _ (.ref ?_)
      · have ha : a ∈ W2.io ++ [D] := ha
        rcases List.mem_append.mp ha with z | z
        · exact fr2.new a z
        · simp at z; subst z; exact .inr hD
      · show (W2.io ++ [D])[S2.length]? = some D
        rw [← rh2.len]
        simp
    | false =>
      refine fi (W2.lay D (.lst us)) H2 ⟨fr2.le.trans (lay_le hf), fr2.keep, fr2.new, fun a u h => ?_⟩ (rh2.layAt hHD hf hio) _ (.lst upd_same (racc.mono (lay_le hf)))
      have h : upd W2.fr D (.lst us) a = some u := h
      by_cases z : a = D
      · rw [z]; exact .inr (.inr hD)
      · rw [upd_ne z] at h; exact fr2.newf a u h
/-! ### {k: v, ..} -/
def trsOf (k : Kg) (E : Ev) (Wx : WX) : C → List (TE × TE)
  | .pcons a b r => (RdE k E Wx a, RdE k E Wx b) :: trsOf k E Wx r
  | _ => []
theorem pairs_ok {k : Kg} {σ : St} : ∀ (c : C) {W : Wd} {G : Gam} {S : Sto} {H : Hp} {Q : List (V × V) → Hp → Prop}, RepS k W G σ → RepH k W S H →
    FinE k Wx σ W H (evalP E c G S) (fun p _ W' H' => ∀ us ws, RepVs k W' p.1 us → RepVs k W' p.2 ws → Q (us.zip ws) H') → tPairs (trsOf k E Wx c) σ H Q := by
  intro c
  induction c with
  | nil => intro W G S H Q rs rh f; exact f W H (Frm.refl W H) rh [] [] .nil .nil
  | pcons a b r _ _ ih =>
    intro W G S H Q rs rh f
    rw [evalP] at f
    refine ⟨W, G, S, rs, rh, f.bind.mono fun x S1 W1 H1 fr1 rh1 f1 v rv => ?_⟩
    refine ⟨W1, G, S1, rs.mono fr1.le, rh1, f1.bind.mono fun y S2 W2 H2 fr2 rh2 f2 w rw => ?_⟩
    refine ih (rs.mono (fr1.le.trans fr2.le)) rh2 (f2.bind.mono fun p S3 W3 H3 fr3 rh3 f3 us ws ru rw' => ?_)
    exact f3 W3 H3 (Frm.refl W3 H3) rh3 (v :: us) (w :: ws) (.cons (rv.mono (fr2.le.trans fr3.le)) ru) (.cons (rw.mono fr3.le) rw')
  | _ => intro W G S H Q rs rh f; exact f.elim
theorem keys_ok {k : Kg} {W : Wd} : ∀ {ds : List D} {vs : List V}, RepVs k W ds vs → ds.all (fun d => (keyD d).isSome) = true → ∃ kk : List Key, vs = kk.map kV ∧ ds = kk.map ofKey
  | _, _, .nil, _ => ⟨[], rfl, rfl⟩
  | _, _, .cons h r, e => by
    simp only [List.all_cons, Bool.and_eq_true] at e
    obtain ⟨kk, e1, e2⟩ := keys_ok r e.2
    cases h with
    | int i => exact ⟨.inl i :: kk, by rw [e1]; rfl, by rw [e2]; rfl⟩
    | str x => exact ⟨.inr x :: kk, by rw [e1]; rfl, by rw [e2]; rfl⟩
    | _ => cases e.1
theorem keyEq_of (a b : Key) : keyEq (ofKey a) (ofKey b) = decide (a = b) := by
  cases a <;> cases b <;> simp [keyEq, ofKey]
theorem nodupK_of : ∀ {kk : List Key}, nodupK (kk.map ofKey) = true → kk.Nodup
  | [], _ => .nil
  | a :: kk, h => by
    simp only [List.map_cons, nodupK, Bool.and_eq_true, Bool.not_eq_true'] at h
    refine List.nodup_cons.mpr ⟨fun z => ?_, nodupK_of h.2⟩
    have e : ((kk.map ofKey).any fun e => keyEq (ofKey a) e) = true := by
      rw [List.any_map, List.any_eq_true]
      exact ⟨a, z, by show keyEq (ofKey a) (ofKey a) = true; rw [keyEq_of]; simp⟩
    rw [h.1] at e
    cases e
theorem merge_new : ∀ (more acc : List (Key × V)), ((acc ++ more).map (·.1)).Nodup → mergeK acc more = acc ++ more
  | [], acc, _ => by simp [mergeK]
  | p :: more, acc, h => by
    have e : valV acc p.1 = none := by
      cases q : valV acc p.1 with
      | none => rfl
      | some v =>
        exfalso
        unfold valV at q
        obtain ⟨kv, h1, _⟩ := Option.map_eq_some_iff.mp q
        have h2 := List.mem_of_find?_eq_some h1
        have h3 : kv.1 = p.1 := by simpa using List.find?_some h1
        rw [List.map_append, List.nodup_append] at h
        exact h.2.2 kv.1 (List.mem_map_of_mem h2) p.1 (by simp) h3
    show mergeK (putK acc p.1 p.2) more = _
    rw [putK_new p.2 e]
    have := merge_new more (acc ++ [(p.1, p.2)]) (by simpa using h)
    rw [this]
    simp
theorem zip_keys : ∀ {l : List Key} {ws : List V}, (l.zip ws).map (fun kv => (kV kv.1, kv.2)) = (l.map kV).zip ws
  | [], _ => rfl
  | _ :: _, [] => rfl
  | a :: l, b :: ws => by
    rw [List.map_cons, List.zip_cons_cons, List.zip_cons_cons, List.map_cons, zip_keys]
theorem s_dic {c : C} {keys : List (Option Expr)} {values : List Expr} {pos : Pos} (hp : PPs X pos keys values (trsOf (kg X) E Wx c)) (hall : keys.all (·.isSome) = true) (hl : keys.length = values.length) (h0 : keys ≠ []) (h15 : keys.length ≤ 15) : PE X (.Dict keys values pos) (RdE (kg X) E Wx (.dic c)) := by
  refine (pe_disp hp hall hl h0 h15).imp fun σ H Q ⟨W, G, S, rs, rh, f⟩ p hpn => ?_
  rw [evalE] at f
  have fr0 : Frm W H W (upd H p (.dK [])) := Frm.priv hpn
  refine pairs_ok c rs (rh.priv (rh.frNone hpn) (rh.ioNo hpn)) (FinE.mono (FinE.step fr0 (FinE.bind0 f)) fun q S1 W1 H1 fr1 rh1 f1 us ws ru rw => ?_)
  have hH1 : H1 p = some (.dK []) := fr1.keep p _ upd_same (rh.ioNo hpn)
  refine ⟨hH1, ?_⟩
  split at f1
  · rename_i hc
    obtain ⟨⟨hc1, hc2, hc3⟩, hc4⟩ := hc
    obtain ⟨kk, e1, e2⟩ := keys_ok ru hc3
    subst e1
    have hlen : kk.length = ws.length := by
      have e : q.1.length = kk.length := by rw [e2, List.length_map]
      rw [← e, hc2, rw.length]
    have nk : kk.Nodup := nodupK_of (by rw [← e2]; exact hc4)
    have m1 : (kk.zip ws).map (·.1) = kk := List.map_fst_zip (Nat.le_of_eq hlen)
    have m2 : (kk.zip ws).map (·.2) = ws := List.map_snd_zip (Nat.le_of_eq hlen.symm)
    have hn1 : p ∉ W1.io := fun z => by
      rcases fr1.new p z with z | z
      · exact rh.ioNo hpn z
      · rw [upd_same] at z; cases z
    have hf1 : W1.fr p = none := by
      cases e : W1.fr p with
      | none => rfl
      | some o =>
        rcases fr1.newf p o e with z | z | z
        · rw [rh.frNone hpn] at z; cases z
        · exact absurd z (rh.ioNo hpn)
        · rw [upd_same] at z; cases z
    refine ⟨kk.zip ws, zip_keys.symm, ?_, ?_⟩
    · rw [List.length_zip, ← hlen, Nat.min_self]
      have e : q.1.length = kk.length := by rw [e2, List.length_map]
      omega
    · rw [merge_new _ _ (by rw [List.nil_append, m1]; exact nk), List.nil_append]
      have fr2 := (fr0.trans fr1).again (o := .dK (kk.zip ws)) hpn
      have le2 := lay_le (p := p) (o := .dK (kk.zip ws)) hf1
      refine f1 (W1.lay p (.dK (kk.zip ws))) _ ⟨fr2.le.trans le2, fr2.keep, fr2.new, fun a u h => ?_⟩ ((rh1.priv hf1 hn1).layAt upd_same hf1 hn1) _ (.dK upd_same ?_ ?_)
      · have h : upd W1.fr p (.dK (kk.zip ws)) a = some u := h
        by_cases z : a = p
        · rw [z]; exact .inr (.inr hpn)
        · rw [upd_ne z] at h; exact fr2.newf a u h
      · have e : (kk.zip ws).map (fun kv => ofKey kv.1) = ((kk.zip ws).map (·.1)).map ofKey := by rw [List.map_map]; rfl
        rw [e, m1, e2]
      · rw [m2]
        exact rw.mono le2
  · exact f1.elim
end Itp

namespace Itp
open PySem PySem.Spec L2
variable {X : Cx} {E : Ev} {bl N : List Str} {sc so : Scope} {j : Nat} {Wx : WX}
/-! ### statements -/
theorem s_pass {pos : Pos} : PS X (.Pass pos) (RdS (kg X) E Wx .pass) := ps_pass.imp fun D σ H ⟨W, G, S, rs, rh, f⟩ => f W H σ (Frm.refl W H) rh rs
theorem s_brk {pos : Pos} : PS X (.Break pos) (RdS (kg X) E Wx .brk) := ps_break.imp fun D σ H ⟨W, G, S, rs, rh, f⟩ => f W H σ (Frm.refl W H) rh rs
theorem s_cont {pos : Pos} : PS X (.Continue pos) (RdS (kg X) E Wx .cont) := ps_continue.imp fun D σ H ⟨W, G, S, rs, rh, f⟩ => f W H σ (Frm.refl W H) rh rs
theorem s_end : PSs X [] (RdS (kg X) E Wx .pass) := pss_nil.imp fun D σ H ⟨W, G, S, rs, rh, f⟩ => f W H σ (Frm.refl W H) rh rs
theorem s_seq {a b : C} {st : Stmt} {rest : List Stmt} (h1 : PS X st (RdS (kg X) E Wx a)) (h2 : PSs X rest (RdS (kg X) E Wx b)) : PSs X (st :: rest) (RdS (kg X) E Wx (.seq a b)) := by
  refine (pss_cons h1 h2).imp fun D σ H ⟨W, G, S, rs, rh, f⟩ => ⟨W, G, S, rs, rh, ?_⟩
  have f : FinS (kg X) Wx W H ((evalS E a G S).then_ fun G1 S1 => evalS E b G1 S1) D := f
  have f2 := f.then_
  cases q : evalS E a G S with
  | nx G1 S1 =>
    rw [q] at f2
    intro W1 H1 σ1 fr1 rh1 rs1
    obtain ⟨W2, G2, S2, _, rh2, rs2, f3⟩ := f2 W1 H1 σ1 fr1 rh1 rs1
    exact ⟨W2, G2, S2, rs2, rh2, f3⟩
  | rt d S1 => rw [q] at f2; exact f2
  | bk G1 S1 => rw [q] at f2; exact f2
  | ct G1 S1 => rw [q] at f2; exact f2
  | exc e G1 S1 => rw [q] at f2; exact f2
  | bad => rw [q] at f2; exact f2
/-- freezing the list in a slot: no statement of the text -/
theorem s_fseq {i : Nat} {b : C} {sts : List Stmt} (h : PSs X sts (RdS (kg X) E Wx b)) : PSs X sts (RdS (kg X) E Wx (.fseq i b)) := by
  refine h.imp fun D σ H ⟨W, G, S, rs, rh, f⟩ => ?_
  rw [evalS] at f
  cases q : G[i]? with
  | none => rw [q] at f; exact f.elim
  | some o =>
    cases o with
    | none => rw [q] at f; exact f.elim
    | some d =>
      rw [q] at f
      dsimp only at f
      unfold freeze at f
      cases d with
      | ref n =>
        dsimp only at f
        cases q2 : S[n]? with
        | none => rw [q2] at f; exact f.elim
        | some mo =>
          rw [q2] at f
          cases mo with
          | lst xs =>
            obtain ⟨v, hv, rv⟩ := rs.2 i _ q
            obtain ⟨a, vs, rfl, h0, h1, r1⟩ := ref_at rh rv q2
            obtain ⟨a', o, g1, g2, g3, g4⟩ := rh.st n _ q2 (fun z => nomatch z)
            rw [h0] at g1
            cases g1
            have le := lay_le (p := a) (o := .lst vs) g4
            have fr : Frm W H (W.lay a (.lst vs)) H := ⟨le, fun _ _ e _ => e, fun _ h => .inl h, fun b u e => by
              have e : upd W.fr a (.lst vs) b = some u := e
              by_cases z : b = a
              · rw [z]; exact .inr (.inl (List.mem_of_getElem? h0))
              · rw [upd_ne z] at e; exact .inl e⟩
            refine ⟨W.lay a (.lst vs), G.set i (some (.lst xs)), S.set n .dead, ?_, ?_, FinS.step fr f⟩
            · have z := (rs.mono le).set (d := .lst xs) (v := .ref a) (.lst upd_same (r1.mono le)) i
              have e : σ.set i (some (V.ref a)) = σ := by
                apply List.ext_getElem?
                intro m
                rw [List.getElem?_set]
                split
                · rename_i hm
                  subst hm
                  split
                  · exact hv.symm
                  · rename_i hl
                    have := (List.getElem?_eq_some_iff.mp hv).1
                    omega
                · rfl
              rw [e] at z
              exact z
            · refine ⟨fun b u e => ?_, fun m mo e z => ?_, by simp [Wd.lay, rh.len], rh.nd, rh.all⟩
              · have e : upd W.fr a (.lst vs) b = some u := e
                by_cases z : b = a
                · rw [z] at e ⊢
                  rw [upd_same] at e
                  rw [h1]
                  exact e
                · rw [upd_ne z] at e
                  exact rh.fr b u e
              · by_cases hm : n = m
                · subst hm
                  rw [List.getElem?_set_self (List.getElem?_eq_some_iff.mp q2).1] at e
                  cases e
                  exact absurd rfl z
                · rw [List.getElem?_set_ne hm] at e
                  obtain ⟨b, u, k1, k2, k3, k4⟩ := rh.st m mo e z
                  have nb : b ≠ a := fun eb => by
                    subst eb
                    obtain ⟨l1, e1⟩ := List.getElem?_eq_some_iff.mp h0
                    obtain ⟨l2, e2⟩ := List.getElem?_eq_some_iff.mp k1
                    exact hm ((List.getElem_inj rh.nd).mp (e1.trans e2.symm))
                  exact ⟨b, u, k1, k2, k3.mono le, by show upd W.fr a (.lst vs) b = none; rw [upd_ne nb]; exact k4⟩
          | dead => exact f.elim
      | _ => exact f.elim
theorem s_ret {e : C} {x : Expr} {pos : Pos} (h : PE X x (RdE (kg X) E Wx e)) : PS X (.Return (some x) pos) (RdS (kg X) E Wx (.ret e)) :=
  (ps_ret h).imp fun D σ H ⟨W, G, S, rs, rh, f⟩ => ⟨W, G, S, rs, rh, (FinS.ofR rs f).mono fun x S1 W1 H1 fr1 rh1 f1 v rv => f1 W1 H1 v (Frm.refl W1 H1) rh1 rv⟩
theorem s_ret0 {pos : Pos} : PS X (.Return none pos) (RdS (kg X) E Wx .ret0) :=
  ps_retN.imp fun D σ H ⟨W, G, S, rs, rh, f⟩ => f W H _ (Frm.refl W H) rh .non
theorem s_drop {e : C} {x : Expr} {pos : Pos} (hc : notComp x = true) (h : PE X x (RdE (kg X) E Wx e)) : PS X (.Expr x pos) (RdS (kg X) E Wx (.drop e)) :=
  (ps_expr h (noSwap hc)).imp fun D σ H ⟨W, G, S, rs, rh, f⟩ => ⟨W, G, S, rs, rh, (FinS.ofR rs f).mono fun x S1 W1 H1 fr1 rh1 f1 v rv => f1 W1 H1 σ (Frm.refl W1 H1) rh1 (rs.mono fr1.le)⟩
theorem s_ifs {t a b : C} {c : Expr} {p q : List Stmt} {pos : Pos} (hc : PT X c (RdT (kg X) E Wx t)) (ha : PSs X p (RdS (kg X) E Wx a)) (hb : PSs X q (RdS (kg X) E Wx b)) : PS X (.If c p q pos) (RdS (kg X) E Wx (.ifs t a b)) := by
  refine (ps_if hc ha hb).imp fun D σ H ⟨W, G, S, rs, rh, f⟩ => ⟨W, G, S, rs, rh, (FinS.ofR rs f).mono fun c S1 W1 H1 fr1 rh1 f1 => ?_⟩
  cases c with
  | true => exact iteT ⟨W1, G, S1, rs.mono fr1.le, rh1, by rw [if_pos rfl] at f1; exact f1⟩
  | false => exact iteF ⟨W1, G, S1, rs.mono fr1.le, rh1, by rw [if_neg Bool.false_ne_true] at f1; exact f1⟩
/-- no swapped stores -/
def noSw (sc : Scope) (tg e : Expr) : Bool := match tg, e with
  | .Tuple ts _ _, .Tuple vs _ _ => !(ts.length == 2 || ts.length == 3) || vs.length != ts.length || vs.all (foldedForSure 8) ||
      (ts.filterMap fun t => match t with | .Name id p => if sc.names.lookup id == some .local && p.line == (ts.head?.map (·.pos.line)).getD 0 then some id else none | _ => none).length != ts.length
  | .List .., .Tuple .. => false
  | _, _ => true
theorem noSw_ok (g : Good X E bl N sc so j Wx) {tg e : Expr} (h : noSw sc tg e = true) : swappedStores [tg] e X.env = pure none := by
  have hk : ∀ id : Str, X.env.kindOf id = sc.names.lookup id := g.kind
  unfold noSw at h
  split at h
  · rename_i ts _ _ vs _ _
    unfold swappedStores
    dsimp only
    have hf : (ts.filterMap fun t => match t with | .Name id p => if X.env.kindOf id == some .local && p.line == (ts.head?.map (·.pos.line)).getD 0 then some id else none | _ => none) = (ts.filterMap fun t => match t with | .Name id p => if sc.names.lookup id == some .local && p.line == (ts.head?.map (·.pos.line)).getD 0 then some id else none | _ => none) := by
      simp only [hk]
    simp only [Bool.or_eq_true] at h
    split
    · rfl
    · rename_i h1
      split
      · rfl
      · split
        · rfl
        · rename_i h3
          split
          · rfl
          · rename_i h4
            exfalso
            simp only [Bool.or_eq_true, not_or] at h1 h3
            rcases h with ((h | h) | h) | h
            · exact h1.1.1 h
            · exact h1.1.2 h
            · exact h4 h
            · rw [← hf] at h
              exact h3.1 h
  · cases h
  · rename_i h1 h2
    unfold swappedStores
    split
    · rename_i hx
      split at hx
      · have he := ‹[tg] = [Expr.Tuple _ _ _]›
        injection he with he
        exact (h1 _ _ _ _ _ _ he rfl).elim
      · have he := ‹[tg] = [Expr.List _ _]›
        injection he with he
        exact (h2 _ _ _ _ _ he rfl).elim
      · cases hx
    · rfl
theorem sole_is {tg : Expr} {env : Env} (h : notStar tg = true) : (assignEach [tg] env).map (·.2) = [assign tg env] := by
  cases tg <;> first | rfl | cases h
theorem s_asg (g : Good X E bl N sc so j Wx) {t e : C} {tg x : Expr} {pos : Pos} (hc : notComp x = true) (hs : notStar tg = true) (hw : noSw sc tg x = true) (h : PE X x (RdE (kg X) E Wx e)) (ht : PG X tg (RdG (kg X) t)) : PS X (.Assign [tg] x pos) (RdS (kg X) E Wx (.asg t e)) := by
  refine (ps_asg h ht (noSwap hc) (noSw_ok g hw) (sole_is hs)).imp fun D σ H ⟨W, G, S, rs, rh, f⟩ => ⟨W, G, S, rs, rh, (FinS.ofR rs f).mono fun x S1 W1 H1 fr1 rh1 f1 v rv => ?_⟩
  cases q : asgG t x G with
  | none => rw [q] at f1; exact f1.elim
  | some G1 =>
    rw [q] at f1
    exact ⟨W1, G, S1, x, rs.mono fr1.le, rh1, rv, G1, q, fun σ1 rs1 _ => f1 W1 H1 σ1 (Frm.refl W1 H1) rh1 rs1⟩
/-- name = [..] on one line -/
theorem s_asgL (g : Good X E bl N sc so j Wx) {i : Nat} {y : Str} {py : Pos} {m : Bool} {own : List (Str × Nat)} {tg it ts e : C} {elt tgE iter : Expr} {ifs : List Expr} {scope : Scope} {pos spos : Pos} (hy : N[i]? = some y) (hyl : sc.names.lookup y = some .local) (hl : (py.line == pos.line) = true)
    (hany : (scope.names.any fun (n, k) => n == y && (k == .local || k == .cell)) = false) (ok : BlkOk N sc scope own) (hn : notSet iter = true) (hsub : ∀ i ∈ slots tg, i ∈ own.map (·.2))
    (hi : PI X tgE iter (RdI (kg X) E Wx it)) (hg : ∀ s H C cl fp, PG (X.blk s H scope (compEnvC scope cl C X.env) fp) tgE (RdG (kg X) tg))
    (ht : ∀ s H C cl fp, PTs (X.blk s H scope (compEnvC scope cl C X.env) fp) ifs (RdT (kg X) E W0x ts)) (he : ∀ s H C cl fp, PE (X.blk s H scope (compEnvC scope cl C X.env) fp) elt (RdE (kg X) E W0x e)) :
    PS X (.Assign [.Name y py] (.ListComp elt [⟨tgE, iter, ifs, 0⟩] scope pos) spos) (RdS (kg X) E Wx (.asgL i m own tg it ts e)) := by
  have key := (s_lc (m := m) (pos := pos) g ok hn hsub hi hg ht he).2
  refine (ps_setLc (i := i) g.calm (by rw [g.hN]; exact g.nd) (by rw [g.hN]; exact hy) (by rw [g.hs]; exact hyl) (sw_true (by rw [g.hs]; exact g.hk) (by rw [g.hs]; exact hyl) hl hany) hi (by rw [g.hN, g.hs]; exact ok) hg ht he (noFold hn)).imp fun D σ H ⟨W, G, S, rs, rh, f⟩ => ?_
  refine key σ H _ ⟨W, G, S, rs, rh, (FinS.ofR rs f).mono fun x S1 W1 H1 fr1 rh1 f1 v rv => ?_⟩
  exact f1 W1 H1 _ (Frm.refl W1 H1) rh1 ((rs.mono fr1.le).set rv i)
theorem s_aix {o i e : C} {ov iv x : Expr} {p pos : Pos} (hc : notComp x = true) (hn : notSlice iv = true) (ho : PE X ov (RdE (kg X) E Wx o)) (hi : PE X iv (RdE (kg X) E Wx i)) (h : PE X x (RdE (kg X) E Wx e)) :
    PS X (.Assign [.Subscript ov iv p] x pos) (RdS (kg X) E Wx (.aix o i e)) := by
  have hw : swappedStores [.Subscript ov iv p] x X.env = pure none := by
    unfold swappedStores
    split
    · rename_i hx
      split at hx
      · have he := ‹[Expr.Subscript ov iv p] = [Expr.Tuple _ _ _]›; cases he
      · have he := ‹[Expr.Subscript ov iv p] = [Expr.List _ _]›; cases he
      · cases hx
    · rfl
  have hsw : swapsWithSole [.Subscript ov iv p] x pos.line X.env = pure false := by
    show swapsWith x (some (.Subscript ov iv p)) pos.line X.env = pure false
    exact noSwap hc
  refine (ps_asg (pos := pos) h (pg_sub (pos := p) ho hi set_ok (by intro v; cases iv <;> first | rfl | cases hn)) hsw hw rfl).imp fun D σ H ⟨W, G, S, rs, rh, f⟩ => ⟨W, G, S, rs, rh, (FinS.ofR rs f).mono fun x S1 W1 H1 fr1 rh1 f1 v rv => ?_⟩
  refine ⟨W1, G, S1, rs.mono fr1.le, rh1, (FinS.ofR (rs.mono fr1.le) f1).mono fun y S2 W2 H2 fr2 rh2 f2 w rw => ?_⟩
  refine ⟨W2, G, S2, rs.mono (fr1.le.trans fr2.le), rh2, (FinS.ofR (rs.mono (fr1.le.trans fr2.le)) f2).mono fun z S3 W3 H3 fr3 rh3 f3 u ru => ?_⟩
  cases q : setF y z x S3 with
  | none => rw [q] at f3; exact f3.elim
  | some S4 =>
    rw [q] at f3
    refine ⟨W3, S3, y, z, x, S4, rw.mono fr3.le, ru, rv.mono (fr2.le.trans fr3.le), rh3, q, fun W4 H4 fr4 rh4 => ?_⟩
    exact f3 W4 H4 σ fr4 rh4 (rs.mono (((fr1.le.trans fr2.le).trans fr3.le).trans fr4.le))
/-- a, b = x, y with local names -/
def swB (sc : Scope) (x y : Str) (px py : Pos) (a b : Expr) : Bool := sc.names.lookup x == some .local && sc.names.lookup y == some .local && px.line == py.line && x != y && notStar a && notStar b && !([a, b].all (foldedForSure 8)) && !([a, b].all (constantsAlone 8))
theorem swB_ok (g : Good X E bl N sc so j Wx) {x y : Str} {px py pt pt2 : Pos} {kt k2 : Nat} {a b : Expr} (h : swB sc x y px py a b = true) : swappedStores [.Tuple [.Name x px, .Name y py] kt pt] (.Tuple [a, b] k2 pt2) X.env = pure (some [x, y]) := by
  unfold swB at h
  simp only [Bool.and_eq_true, Bool.not_eq_true', bne_iff_ne, ne_eq, beq_iff_eq] at h
  obtain ⟨⟨⟨⟨⟨⟨⟨h1, h2⟩, h3⟩, h4⟩, h5⟩, h6⟩, h7⟩, h8⟩ := h
  have kx : X.env.kindOf x = some .local := by rw [g.kind]; exact h1
  have ky : X.env.kindOf y = some .local := by rw [g.kind]; exact h2
  have hb : X.env.blockKind = .function := by
    unfold Env.blockKind
    rw [g.hs, g.hk]
    rfl
  have e3 : ([x, y] : List Str).eraseDups = [x, y] := by
    have : (y == x) = false := by simpa using (fun z : y = x => h4 z.symm)
    simp [List.eraseDups_cons, this]
  unfold swappedStores
  dsimp only
  rw [if_neg (by simp [hb]), if_neg ?_]
  · simp only [List.filterMap_cons, List.filterMap_nil, kx, ky, List.head?_cons, Option.map_some, Option.getD_some, Expr.pos, h3, beq_self_eq_true, Bool.and_self, if_true, e3, h7, h8]
    rfl
  · intro z
    obtain ⟨t, ht, hz⟩ := List.any_eq_true.mp z
    simp only [List.mem_cons, List.not_mem_nil, or_false] at ht
    split at hz
    · rcases ht with e | e
      · rw [← e] at h5; cases h5
      · rw [← e] at h6; cases h6
    · cases hz
theorem s_par (g : Good X E bl N sc so j Wx) {i k : Nat} {a b : C} {x y : Str} {px py pt pt2 : Pos} {kt k2 : Nat} {u v : Expr} {pos : Pos} (hi : N[i]? = some x) (hk : N[k]? = some y) (hw : swB sc x y px py u v = true) (ha : PE X u (RdE (kg X) E Wx a)) (hb : PE X v (RdE (kg X) E Wx b)) :
    PS X (.Assign [.Tuple [.Name x px, .Name y py] kt pt] (.Tuple [u, v] k2 pt2) pos) (RdS (kg X) E Wx (.par i k a b)) := by
  have hsw := swB_ok (pt := pt) (pt2 := pt2) (kt := kt) (k2 := k2) g hw
  unfold swB at hw
  simp only [Bool.and_eq_true, Bool.not_eq_true', bne_iff_ne, ne_eq, beq_iff_eq] at hw
  obtain ⟨⟨⟨⟨⟨⟨⟨h1, h2⟩, h3⟩, h4⟩, h5⟩, h6⟩, h7⟩, h8⟩ := hw
  have hik : i ≠ k := fun e => h4 (by subst e; rw [hi] at hk; exact Option.some.inj hk)
  refine (ps_par (i := i) (j := k) g.calm (by rw [g.hN]; exact g.nd) (by rw [g.hN]; exact hi) (by rw [g.hN]; exact hk) hik (by rw [g.hs]; exact h1) (by rw [g.hs]; exact h2) (pa_cons ha (pa_cons hb pa_nil (star_cons h6)) (star_cons h5)) hsw).imp fun D σ H ⟨W, G, S, rs, rh, f⟩ => ?_
  refine ⟨W, G, S, rs, rh, (FinS.ofR rs f).mono fun x S1 W1 H1 fr1 rh1 f1 v rv => ?_⟩
  refine ⟨W1, G, S1, rs.mono fr1.le, rh1, (FinS.ofR (rs.mono fr1.le) f1).mono fun y S2 W2 H2 fr2 rh2 f2 w rw => ?_⟩
  exact ⟨v, w, rfl, f2 W2 H2 _ (Frm.refl W2 H2) rh2 (((rs.mono (fr1.le.trans fr2.le)).set (rv.mono fr2.le) i).set rw k)⟩
/-! ### for -/
theorem s_for (g : Good X E bl N sc so j Wx) {t it b : C} {tg iter : Expr} {body : List Stmt} {pos : Pos} (hn : notSet iter = true) (hi : PI X tg iter (RdI (kg X) E Wx it)) (hg : PG X tg (RdG (kg X) t)) (hb : PSs X body (RdS (kg X) E Wx b)) : PS X (.For tg iter body [] pos) (RdS (kg X) E Wx (.for_ t it b)) := by
  refine (ps_for g.pass g.calm hi hg hb (noFold hn)).imp fun D σ H ⟨W, G, S, rs, rh, f⟩ => ?_
  refine ⟨W, G, S, rs, rh, (FinS.ofR rs f).mono fun ds S1 W1 H1 fr1 rh1 f1 J wd => ?_⟩
  refine ⟨fun i n σ H => n = ds.length - i ∧ i ≤ ds.length ∧ ∃ W2 G2 S2, Frm W1 H1 W2 H ∧ RepH (kg X) W2 S2 H ∧ RepS (kg X) W2 G2 σ ∧ FinS (kg X) Wx W2 H (forLoop (asgG t) (fun G S => evalS E b G S) (ds.drop i) G2 S2) D,
    ⟨ds.length, by simp, Nat.zero_le _, W1, G, S1, Frm.refl _ _, rh1, rs.mono fr1.le, f1⟩, ?_⟩
  rintro i n σ2 H2 ⟨rfl, hile, W2, G2, S2, fr2, rh2, rs2, f2⟩
  obtain ⟨hstop, hgo⟩ := wd i W2 S2 H2 fr2.le rh2
  by_cases hlt : i < ds.length
  · have ed : ds.drop i = ds[i] :: ds.drop (i + 1) := List.drop_eq_getElem_cons hlt
    rw [ed, forLoop] at f2
    refine .inr ⟨(hgo ds[i] (by simp [hlt])).1, fun σ' H' => ∃ W2 G2 S2, Frm W1 H1 W2 H' ∧ RepH (kg X) W2 S2 H' ∧ RepS (kg X) W2 G2 σ' ∧ FinS (kg X) Wx W2 H' (forLoop (asgG t) (fun G S => evalS E b G S) (ds.drop (i + 1)) G2 S2) D,
      fun σ' H' z => ⟨ds.length - (i + 1), by omega, rfl, hlt, z⟩, fun x H3 hy => ?_⟩
    obtain ⟨W3, fr3, rh3, rx⟩ := (hgo ds[i] (by simp [hlt])).2 x H3 hy
    cases hG : asgG t ds[i] G2 with
    | none => rw [hG] at f2; exact f2.elim
    | some G1 =>
      rw [hG] at f2
      refine ⟨W3, G2, S2, ds[i], rs2.mono fr3.le, rh3, rx, G1, hG, fun σ4 rs4 _ => ⟨W3, G1, S2, rs4, rh3, ?_⟩⟩
      have f3 := FinS.step fr3 f2
      dsimp only at f3
      cases q : evalS E b G1 S2 with
      | nx G4 S4 =>
        rw [q] at f3
        exact fun W4 H4 σ4 fr4 rh4 rs4 => ⟨W4, G4, S4, (fr2.trans fr3).trans fr4, rh4, rs4, FinS.step fr4 f3⟩
      | ct G4 S4 =>
        rw [q] at f3
        exact fun W4 H4 σ4 fr4 rh4 rs4 => ⟨W4, G4, S4, (fr2.trans fr3).trans fr4, rh4, rs4, FinS.step fr4 f3⟩
      | bk G4 S4 => rw [q] at f3; exact f3
      | rt d S4 => rw [q] at f3; exact f3
      | exc e G4 S4 => rw [q] at f3; exact f3
      | bad => rw [q] at f3; exact f3
  · have e : i = ds.length := by omega
    rw [e, List.drop_length, forLoop] at f2
    exact .inl ⟨hstop e, f2 W2 H2 σ2 (Frm.refl _ _) rh2 rs2⟩
end Itp

namespace Itp
open PySem PySem.Spec L2
/-! ### the code and the text -/
section
variable (bl N : List Str)
def nameB (sc : Scope) (i : Nat) (x : Str) : Bool := decide (N[i]? = some x) && (match sc.names.lookup x with | some .local => true | some .cell => true | some .free => true | _ => false) && !(x == ("__debug__" : Str)) && !(x == ("__classdict__" : Str))
def glB (sc : Scope) (x : Str) : Bool := match sc.names.lookup x with
  | some .globalImplicit => true
  | _ => false
def locB (so : Scope) (x : Str) : Bool := match so.names.lookup x with
  | some .local => true
  | some .cell => true
  | _ => false
def isNil : C → Bool
  | .nil => true
  | _ => false
def tsB (f : Expr → Bool) (n : Bool) (ifs : List Expr) : Bool := match ifs with
  | [] => n
  | [c] => f c
  | _ => false
mutual
def chkE : C → Scope → Expr → Bool
  | .var i, sc, .Name x _ => nameB N sc i x
  | .kint i, _, .Constant (.int k) _ _ => decide (i = k)
  | .kstr z, _, .Constant (.str y) _ _ => decide (z = y)
  | .kbl b, _, .Constant (.bool c) _ _ => decide (b = c)
  | .knon, _, .Constant .none _ _ => true
  | .glo x, sc, .Name y _ => decide (x = y) && glB sc y && !(y == ("__debug__" : Str))
  | .ty t, sc, .Name y _ => decide (tnB t = some y) && glB sc y && decide (y ∈ bl)
  | .bin _ o a b, sc, .BinOp l p r _ => decide (o = p) && chkE a sc l && chkE b sc r
  | .un o a, sc, .UnaryOp p x _ => decide (o = p) && chkE a sc x
  | .cmp o a b, sc, .Compare l [p] [r] _ => decide (o = p) && notSet r && chkE a sc l && chkE b sc r
  | .chain o o' a b c, sc, .Compare l [p, p'] [m, r] _ => decide (o = p) && decide (o' = p') && notSet r && chkE a sc l && chkE b sc m && chkE c sc r
  | .and a b, sc, .BoolOp .And (x :: y :: rest) pos => chkE a sc x && chkE b sc (.BoolOp .And (y :: rest) pos)
  | .or a b, sc, .BoolOp .Or (x :: y :: rest) pos => chkE a sc x && chkE b sc (.BoolOp .Or (y :: rest) pos)
  | .one a, sc, .BoolOp _ [x] _ => chkE a sc x
  | .not a, sc, .UnaryOp .Not x _ => chkE a sc x
  | .ife t a b, sc, .IfExp c x y _ => chkT t sc c && chkE a sc x && chkE b sc y
  | .tup as, sc, .Tuple es _ _ => chkA as sc es
  | .lst _ as, sc, .List es _ => chkA as sc es
  | .dic as, sc, .Dict ks vs _ => ks.all (·.isSome) && decide (ks.length = vs.length) && !ks.isEmpty && decide (ks.length ≤ 15) && chkP as sc ks vs
  | .call f as, sc, .Call (.Name x _) (e :: es) [] _ => decide (f = x) && glB sc x && !(x == ("__debug__" : Str)) && (e :: es).all notStar && chkA as sc (e :: es)
  | .bi _ f as, sc, .Call (.Name x _) (e :: es) [] _ => decide (f.name = x) && glB sc x && decide (x ∈ bl) && (e :: es).all notStar && chkA as sc (e :: es)
  | .me f o as, sc, .Call (.Attribute ov n apos) (e :: es) [] cpos => decide (f.name = n) && notSuper ov && (e :: es).all notStar && decide ((e :: es).length < 30) && (apos.endLine == cpos.line) && chkE o sc ov && chkA as sc (e :: es)
  | .ix a b, sc, .Subscript v s _ => notSlice s && chkE a sc v && chkE b sc s
  | .lc _ own tg it ts e, sc, .ListComp elt [⟨t, iter, ifs, k⟩] scope _ => decide (k = 0) && blkC N sc scope own && notSet iter && (slots tg).all (fun i => decide (i ∈ own.map (·.2))) && chkI it sc iter && chkG tg scope t && tsB (fun c => chkT ts (relS scope sc) c) (isNil ts) ifs && chkE e (relS scope sc) elt
  | _, _, _ => false
def chkA : C → Scope → List Expr → Bool
  | .nil, _, [] => true
  | .cons a as, sc, e :: es => notStar e && chkE a sc e && chkA as sc es
  | _, _, _ => false
def chkP : C → Scope → List (Option Expr) → List Expr → Bool
  | .nil, _, [], [] => true
  | .pcons k v r, sc, some x :: xs, y :: ys => chkE k sc x && chkE v sc y && chkP r sc xs ys
  | _, _, _, _ => false
def chkT : C → Scope → Expr → Bool
  | .tv a, sc, e => plainT e && chkE a sc e
  | .cmp o a b, sc, .Compare l [p] [r] _ => decide (o = p) && notSet r && chkE a sc l && chkE b sc r
  | .chain o o' a b c, sc, .Compare l [p, p'] [m, r] _ => decide (o = p) && decide (o' = p') && notSet r && chkE a sc l && chkE b sc m && chkE c sc r
  | .and a b, sc, .BoolOp .And (x :: y :: rest) pos => chkT a sc x && chkT b sc (.BoolOp .And (y :: rest) pos)
  | .or a b, sc, .BoolOp .Or (x :: y :: rest) pos => chkT a sc x && chkT b sc (.BoolOp .Or (y :: rest) pos)
  | .one a, sc, .BoolOp _ [x] _ => chkT a sc x
  | .not a, sc, .UnaryOp .Not x _ => chkT a sc x
  | _, _, _ => false
def chkI : C → Scope → Expr → Bool
  | .range1 a, sc, .Call (.Name x _) [e] [] _ => decide (x = "range") && glB sc x && decide (x ∈ bl) && notStar e && chkE a sc e
  | .range2 a b, sc, .Call (.Name x _) [e, e'] [] _ => decide (x = "range") && glB sc x && decide (x ∈ bl) && notStar e && notStar e' && chkE a sc e && chkE b sc e'
  | .over a, sc, e => chkE a sc e
  | .overS a, sc, e => chkE a sc e
  | _, _, _ => false
def chkG : C → Scope → Expr → Bool
  | .tn i, so, .Name x _ => decide (N[i]? = some x) && locB so x
  | .tt ts, so, .Tuple es _ _ => es.all notStar && decide (es.length = widthG ts) && chkGs ts so es
  | _, _, _ => false
def chkGs : C → Scope → List Expr → Bool
  | .nil, _, [] => true
  | .cons t ts, so, e :: es => notStar e && chkG t so e && chkGs ts so es
  | _, _, _ => false
def chkS : C → Scope → Scope → Stmt → Bool
  | .pass, _, _, .Pass _ => true
  | .brk, _, _, .Break _ => true
  | .cont, _, _, .Continue _ => true
  | .asg t e, sc, so, .Assign [tg] x _ => notComp x && notStar tg && noSw sc tg x && chkE e sc x && chkG t so tg
  | .asgL i _ own tg it ts e, sc, _, .Assign [.Name y py] (.ListComp elt [⟨t, iter, ifs, k⟩] scope pos) _ => decide (N[i]? = some y) && (match sc.names.lookup y with | some .local => true | _ => false) && (py.line == pos.line) && !(scope.names.any fun (n, k) => n == y && (k == .local || k == .cell)) && decide (k = 0) && blkC N sc scope own && notSet iter && (slots tg).all (fun i => decide (i ∈ own.map (·.2))) && chkI it sc iter && chkG tg scope t && tsB (fun c => chkT ts (relS scope sc) c) (isNil ts) ifs && chkE e (relS scope sc) elt
  | .aix o i e, sc, _, .Assign [.Subscript ov iv _] x _ => notComp x && notSlice iv && chkE o sc ov && chkE i sc iv && chkE e sc x
  | .par i k a b, sc, _, .Assign [.Tuple [.Name x px, .Name y py] _ _] (.Tuple [u, v] _ _) _ => decide (N[i]? = some x) && decide (N[k]? = some y) && swB sc x y px py u v && chkE a sc u && chkE b sc v
  | .ret e, sc, _, .Return (some x) _ => chkE e sc x
  | .ret0, _, _, .Return none _ => true
  | .ifs t a b, sc, so, .If c p q _ => chkT t sc c && chkB a sc so p && chkB b sc so q
  | .for_ t it b, sc, so, .For tg iter body [] _ => notSet iter && chkI it sc iter && chkG t so tg && chkB b sc so body
  | .drop e, sc, _, .Expr x _ => notComp x && chkE e sc x
  | _, _, _, _ => false
def chkB : C → Scope → Scope → List Stmt → Bool
  | .pass, _, _, [] => true
  | .seq a b, sc, so, s :: rest => chkS a sc so s && chkB b sc so rest
  | .fseq _ b, sc, so, sts => chkB b sc so sts
  | _, _, _, _ => false
end
end
theorem nameB_ok {N : List Str} {sc : Scope} {i : Nat} {x : Str} (h : nameB N sc i x = true) : N[i]? = some x ∧ Vis sc x ∧ (x == ("__debug__" : Str)) = false ∧ (x == ("__classdict__" : Str)) = false := by
  unfold nameB at h
  simp only [Bool.and_eq_true, decide_eq_true_eq, Bool.not_eq_true'] at h
  obtain ⟨⟨⟨h1, h2⟩, h3⟩, h4⟩ := h
  refine ⟨h1, ?_, h3, h4⟩
  split at h2
  · exact .inl (by assumption)
  · exact .inr (.inl (by assumption))
  · exact .inr (.inr (by assumption))
  · cases h2
theorem glB_ok {sc : Scope} {x : Str} (h : glB sc x = true) : sc.names.lookup x = some .globalImplicit := by
  unfold glB at h
  split at h
  · assumption
  · cases h
theorem locB_ok {so : Scope} {x : Str} (h : locB so x = true) : Loc so x := by
  unfold locB at h
  split at h
  · exact .inl (by assumption)
  · exact .inr (by assumption)
  · cases h
structure Snd (E : Ev) (bl N : List Str) (c : C) : Prop where
  e : ∀ {X : Cx} {sc so : Scope} {j : Nat} {Wx : WX} (g : Good X E bl N sc so j Wx) {x : Expr}, chkE bl N c sc x = true → PE X x (RdE (kg X) E Wx c)
  a : ∀ {X : Cx} {sc so : Scope} {j : Nat} {Wx : WX} (g : Good X E bl N sc so j Wx) {x : List Expr}, chkA bl N c sc x = true → PA X x (RdA (kg X) E Wx c)
  p : ∀ {X : Cx} {sc so : Scope} {j : Nat} {Wx : WX} (g : Good X E bl N sc so j Wx) {ks : List (Option Expr)} {vs : List Expr} {pos : Pos}, chkP bl N c sc ks vs = true → PPs X pos ks vs (trsOf (kg X) E Wx c)
  t : ∀ {X : Cx} {sc so : Scope} {j : Nat} {Wx : WX} (g : Good X E bl N sc so j Wx) {x : Expr}, chkT bl N c sc x = true → PT X x (RdT (kg X) E Wx c)
  w : ∀ {X : Cx} {sc so : Scope} {j : Nat} {Wx : WX} (g : Good X E bl N sc so j Wx) {o : BoolOp} {vs : List Expr} {p : Pos}, chkT bl N c sc (.BoolOp o vs p) = true → PW X (.BoolOp o vs p) (RdT (kg X) E Wx c)
  i : ∀ {X : Cx} {sc so : Scope} {j : Nat} {Wx : WX} (g : Good X E bl N sc so j Wx) {tg x : Expr}, chkI bl N c sc x = true → PI X tg x (RdI (kg X) E Wx c)
  g : ∀ {X : Cx} {sc so : Scope} {j : Nat} {Wx : WX} (g : Good X E bl N sc so j Wx) {x : Expr}, chkG bl N c so x = true → PG X x (RdG (kg X) c)
  gs : ∀ {X : Cx} {sc so : Scope} {j : Nat} {Wx : WX} (g : Good X E bl N sc so j Wx) {x : List Expr}, chkGs bl N c so x = true → PGs X x (RdGs (kg X) c)
  s : ∀ {X : Cx} {sc so : Scope} {j : Nat} {Wx : WX} (g : Good X E bl N sc so j Wx) {x : Stmt}, chkS bl N c sc so x = true → PS X x (RdS (kg X) E Wx c)
  b : ∀ {X : Cx} {sc so : Scope} {j : Nat} {Wx : WX} (g : Good X E bl N sc so j Wx) {x : List Stmt}, chkB bl N c sc so x = true → PSs X x (RdS (kg X) E Wx c)
variable {E : Ev} {bl N : List Str}
theorem no_e {c : C} (h : ∀ sc x, chkE bl N c sc x = false) : ∀ {X : Cx} {sc so : Scope} {j : Nat} {Wx : WX} (g : Good X E bl N sc so j Wx) {x : Expr}, chkE bl N c sc x = true → PE X x (RdE (kg X) E Wx c) := by
  intro X sc so j Wx g x h1
  rw [h] at h1
  cases h1
theorem no_a {c : C} (h : ∀ sc x, chkA bl N c sc x = false) : ∀ {X : Cx} {sc so : Scope} {j : Nat} {Wx : WX} (g : Good X E bl N sc so j Wx) {x : List Expr}, chkA bl N c sc x = true → PA X x (RdA (kg X) E Wx c) := by
  intro X sc so j Wx g x h1
  rw [h] at h1
  cases h1
theorem no_p {c : C} (h : ∀ sc ks vs, chkP bl N c sc ks vs = false) : ∀ {X : Cx} {sc so : Scope} {j : Nat} {Wx : WX} (g : Good X E bl N sc so j Wx) {ks : List (Option Expr)} {vs : List Expr} {pos : Pos}, chkP bl N c sc ks vs = true → PPs X pos ks vs (trsOf (kg X) E Wx c) := by
  intro X sc so j Wx g ks vs pos h1
  rw [h] at h1
  cases h1
theorem no_t {c : C} (h : ∀ sc x, chkT bl N c sc x = false) : ∀ {X : Cx} {sc so : Scope} {j : Nat} {Wx : WX} (g : Good X E bl N sc so j Wx) {x : Expr}, chkT bl N c sc x = true → PT X x (RdT (kg X) E Wx c) := by
  intro X sc so j Wx g x h1
  rw [h] at h1
  cases h1
theorem no_w {c : C} (h : ∀ sc o vs p, chkT bl N c sc (.BoolOp o vs p) = false) : ∀ {X : Cx} {sc so : Scope} {j : Nat} {Wx : WX} (g : Good X E bl N sc so j Wx) {o : BoolOp} {vs : List Expr} {p : Pos}, chkT bl N c sc (.BoolOp o vs p) = true → PW X (.BoolOp o vs p) (RdT (kg X) E Wx c) := by
  intro X sc so j Wx g o vs p h1
  rw [h] at h1
  cases h1
theorem no_i {c : C} (h : ∀ sc x, chkI bl N c sc x = false) : ∀ {X : Cx} {sc so : Scope} {j : Nat} {Wx : WX} (g : Good X E bl N sc so j Wx) {tg x : Expr}, chkI bl N c sc x = true → PI X tg x (RdI (kg X) E Wx c) := by
  intro X sc so j Wx g tg x h1
  rw [h] at h1
  cases h1
theorem no_g {c : C} (h : ∀ so x, chkG bl N c so x = false) : ∀ {X : Cx} {sc so : Scope} {j : Nat} {Wx : WX} (g : Good X E bl N sc so j Wx) {x : Expr}, chkG bl N c so x = true → PG X x (RdG (kg X) c) := by
  intro X sc so j Wx g x h1
  rw [h] at h1
  cases h1
theorem no_gs {c : C} (h : ∀ so x, chkGs bl N c so x = false) : ∀ {X : Cx} {sc so : Scope} {j : Nat} {Wx : WX} (g : Good X E bl N sc so j Wx) {x : List Expr}, chkGs bl N c so x = true → PGs X x (RdGs (kg X) c) := by
  intro X sc so j Wx g x h1
  rw [h] at h1
  cases h1
theorem no_s {c : C} (h : ∀ sc so x, chkS bl N c sc so x = false) : ∀ {X : Cx} {sc so : Scope} {j : Nat} {Wx : WX} (g : Good X E bl N sc so j Wx) {x : Stmt}, chkS bl N c sc so x = true → PS X x (RdS (kg X) E Wx c) := by
  intro X sc so j Wx g x h1
  rw [h] at h1
  cases h1
theorem no_b {c : C} (h : ∀ sc so x, chkB bl N c sc so x = false) : ∀ {X : Cx} {sc so : Scope} {j : Nat} {Wx : WX} (g : Good X E bl N sc so j Wx) {x : List Stmt}, chkB bl N c sc so x = true → PSs X x (RdS (kg X) E Wx c) := by
  intro X sc so j Wx g x h1
  rw [h] at h1
  cases h1
theorem snd_var (i : Nat) : Snd E bl N (C.var i) := by
  refine ⟨?_, no_a fun _ _ => rfl, no_p fun _ _ _ => rfl, no_t fun _ _ => rfl, no_w fun _ _ _ _ => rfl, no_i fun _ _ => rfl, no_g fun _ _ => rfl, no_gs fun _ _ => rfl, no_s fun _ _ _ => rfl, no_b fun _ _ _ => rfl⟩
  · intro X sc so j Wx g x h
    cases x with
    | Name y p =>
      obtain ⟨h1, h2, h3, h4⟩ := nameB_ok h
      exact s_var g h1 h2 h3 h4
    | _ => cases h
theorem snd_kint (i : Int) : Snd E bl N (C.kint i) := by
  refine ⟨?_, no_a fun _ _ => rfl, no_p fun _ _ _ => rfl, no_t fun _ _ => rfl, no_w fun _ _ _ _ => rfl, no_i fun _ _ => rfl, no_g fun _ _ => rfl, no_gs fun _ _ => rfl, no_s fun _ _ _ => rfl, no_b fun _ _ _ => rfl⟩
  · intro X sc so j Wx g x h
    cases x with
    | Constant k n p =>
      cases k with
      | int v => have e : i = v := of_decide_eq_true h; subst e; exact s_kint
      | _ => cases h
    | _ => cases h
theorem snd_kstr (i : Str) : Snd E bl N (C.kstr i) := by
  refine ⟨?_, no_a fun _ _ => rfl, no_p fun _ _ _ => rfl, no_t fun _ _ => rfl, no_w fun _ _ _ _ => rfl, no_i fun _ _ => rfl, no_g fun _ _ => rfl, no_gs fun _ _ => rfl, no_s fun _ _ _ => rfl, no_b fun _ _ _ => rfl⟩
  · intro X sc so j Wx g x h
    cases x with
    | Constant k n p =>
      cases k with
      | str v => have e : i = v := of_decide_eq_true h; subst e; exact s_kstr
      | _ => cases h
    | _ => cases h
theorem snd_kbl (i : Bool) : Snd E bl N (C.kbl i) := by
  refine ⟨?_, no_a fun _ _ => rfl, no_p fun _ _ _ => rfl, no_t fun _ _ => rfl, no_w fun _ _ _ _ => rfl, no_i fun _ _ => rfl, no_g fun _ _ => rfl, no_gs fun _ _ => rfl, no_s fun _ _ _ => rfl, no_b fun _ _ _ => rfl⟩
  · intro X sc so j Wx g x h
    cases x with
    | Constant k n p =>
      cases k with
      | bool v => have e : i = v := of_decide_eq_true h; subst e; exact s_kbl
      | _ => cases h
    | _ => cases h
theorem snd_knon : Snd E bl N (C.knon) := by
  refine ⟨?_, no_a fun _ _ => rfl, no_p fun _ _ _ => rfl, no_t fun _ _ => rfl, no_w fun _ _ _ _ => rfl, no_i fun _ _ => rfl, no_g fun _ _ => rfl, no_gs fun _ _ => rfl, no_s fun _ _ _ => rfl, no_b fun _ _ _ => rfl⟩
  · intro X sc so j Wx g x h
    cases x with
    | Constant k n p =>
      cases k with
      | none => exact s_knon
      | _ => cases h
    | _ => cases h
theorem snd_glo (y : Str) : Snd E bl N (C.glo y) := by
  refine ⟨?_, no_a fun _ _ => rfl, no_p fun _ _ _ => rfl, no_t fun _ _ => rfl, no_w fun _ _ _ _ => rfl, no_i fun _ _ => rfl, no_g fun _ _ => rfl, no_gs fun _ _ => rfl, no_s fun _ _ _ => rfl, no_b fun _ _ _ => rfl⟩
  · intro X sc so j Wx g x h
    cases x with
    | Name z p =>
      rw [chkE] at h
      simp only [Bool.and_eq_true, decide_eq_true_eq, Bool.not_eq_true'] at h
      obtain ⟨⟨rfl, h2⟩, h3⟩ := h
      exact s_glo g (glB_ok h2) h3
    | _ => cases h
theorem snd_ty (t : Tn) : Snd E bl N (C.ty t) := by
  refine ⟨?_, no_a fun _ _ => rfl, no_p fun _ _ _ => rfl, no_t fun _ _ => rfl, no_w fun _ _ _ _ => rfl, no_i fun _ _ => rfl, no_g fun _ _ => rfl, no_gs fun _ _ => rfl, no_s fun _ _ _ => rfl, no_b fun _ _ _ => rfl⟩
  · intro X sc so j Wx g x h
    cases x with
    | Name z p =>
      rw [chkE] at h
      simp only [Bool.and_eq_true, decide_eq_true_eq, Bool.not_eq_true'] at h
      obtain ⟨⟨h1, h2⟩, h3⟩ := h
      exact s_ty g h1 (glB_ok h2) h3
    | _ => cases h
theorem snd_bin (m : Bool) (o : Operator) (a : C) (b : C) (iha : Snd E bl N a) (ihb : Snd E bl N b) : Snd E bl N (C.bin m o a b) := by
  refine ⟨?_, no_a fun _ _ => rfl, no_p fun _ _ _ => rfl, no_t fun _ _ => rfl, no_w fun _ _ _ _ => rfl, no_i fun _ _ => rfl, no_g fun _ _ => rfl, no_gs fun _ _ => rfl, no_s fun _ _ _ => rfl, no_b fun _ _ _ => rfl⟩
  · intro X sc so j Wx g x h
    cases x with
    | BinOp l p r pos =>
      rw [chkE] at h
      simp only [Bool.and_eq_true, decide_eq_true_eq, Bool.not_eq_true'] at h
      obtain ⟨⟨rfl, h2⟩, h3⟩ := h
      exact s_bin (iha.e g h2) (ihb.e g h3)
    | _ => cases h
theorem snd_un (o : UnaryOp) (a : C) (iha : Snd E bl N a) : Snd E bl N (C.un o a) := by
  refine ⟨?_, no_a fun _ _ => rfl, no_p fun _ _ _ => rfl, no_t fun _ _ => rfl, no_w fun _ _ _ _ => rfl, no_i fun _ _ => rfl, no_g fun _ _ => rfl, no_gs fun _ _ => rfl, no_s fun _ _ _ => rfl, no_b fun _ _ _ => rfl⟩
  · intro X sc so j Wx g x h
    cases x with
    | UnaryOp p y pos =>
      rw [chkE] at h
      simp only [Bool.and_eq_true, decide_eq_true_eq, Bool.not_eq_true'] at h
      obtain ⟨rfl, h2⟩ := h
      exact s_un (iha.e g h2)
    | _ => cases h
theorem snd_tv (a : C) (iha : Snd E bl N a) : Snd E bl N (C.tv a) := by
  refine ⟨no_e fun _ _ => rfl, no_a fun _ _ => rfl, no_p fun _ _ _ => rfl, ?_, ?_, no_i fun _ _ => rfl, no_g fun _ _ => rfl, no_gs fun _ _ => rfl, no_s fun _ _ _ => rfl, no_b fun _ _ _ => rfl⟩
  · intro X sc so j Wx g x h
    rw [chkT] at h
    simp only [Bool.and_eq_true, decide_eq_true_eq, Bool.not_eq_true'] at h
    exact s_truth h.1 (iha.e g h.2)
  · intro X sc so j Wx g o vs p h
    rw [chkT] at h
    simp only [Bool.and_eq_true, decide_eq_true_eq, Bool.not_eq_true'] at h
    cases h.1
theorem snd_cmp (o : CmpOp) (a : C) (b : C) (iha : Snd E bl N a) (ihb : Snd E bl N b) : Snd E bl N (C.cmp o a b) := by
  refine ⟨?_, no_a fun _ _ => rfl, no_p fun _ _ _ => rfl, ?_, no_w fun _ _ _ _ => rfl, no_i fun _ _ => rfl, no_g fun _ _ => rfl, no_gs fun _ _ => rfl, no_s fun _ _ _ => rfl, no_b fun _ _ _ => rfl⟩
  · intro X sc so j Wx g x h
    cases x with
    | Compare l ops cs pos =>
      match ops, cs with
      | [p], [r] =>
        rw [chkE] at h
        simp only [Bool.and_eq_true, decide_eq_true_eq, Bool.not_eq_true'] at h
        obtain ⟨⟨⟨rfl, h2⟩, h3⟩, h4⟩ := h
        exact s_cmp g h2 (iha.e g h3) (ihb.e g h4)
      | [], _ => cases h
      | [_], [] => cases h
      | [_], _ :: _ :: _ => cases h
      | _ :: _ :: _, _ => cases h
    | _ => cases h
  · intro X sc so j Wx g x h
    cases x with
    | Compare l ops cs pos =>
      match ops, cs with
      | [p], [r] =>
        rw [chkT] at h
        simp only [Bool.and_eq_true, decide_eq_true_eq, Bool.not_eq_true'] at h
        obtain ⟨⟨⟨rfl, h2⟩, h3⟩, h4⟩ := h
        exact s_cmpT g h2 (iha.e g h3) (ihb.e g h4)
      | [], _ => cases h
      | [_], [] => cases h
      | [_], _ :: _ :: _ => cases h
      | _ :: _ :: _, _ => cases h
    | _ => cases h
theorem snd_chain (o : CmpOp) (o' : CmpOp) (a : C) (b : C) (c : C) (iha : Snd E bl N a) (ihb : Snd E bl N b) (ihc : Snd E bl N c) : Snd E bl N (C.chain o o' a b c) := by
  refine ⟨?_, no_a fun _ _ => rfl, no_p fun _ _ _ => rfl, ?_, no_w fun _ _ _ _ => rfl, no_i fun _ _ => rfl, no_g fun _ _ => rfl, no_gs fun _ _ => rfl, no_s fun _ _ _ => rfl, no_b fun _ _ _ => rfl⟩
  · intro X sc so j Wx g x h
    cases x with
    | Compare l ops cs pos =>
      match ops, cs with
      | [p, p'], [m, r] =>
        rw [chkE] at h
        simp only [Bool.and_eq_true, decide_eq_true_eq, Bool.not_eq_true'] at h
        obtain ⟨⟨⟨⟨⟨rfl, rfl⟩, h2⟩, h3⟩, h4⟩, h5⟩ := h
        exact s_chain g h2 (iha.e g h3) (ihb.e g h4) (ihc.e g h5)
      | [], _ => cases h
      | [_], _ => cases h
      | [_, _], [] => cases h
      | [_, _], [_] => cases h
      | [_, _], _ :: _ :: _ :: _ => cases h
      | _ :: _ :: _ :: _, _ => cases h
    | _ => cases h
  · intro X sc so j Wx g x h
    cases x with
    | Compare l ops cs pos =>
      match ops, cs with
      | [p, p'], [m, r] =>
        rw [chkT] at h
        simp only [Bool.and_eq_true, decide_eq_true_eq, Bool.not_eq_true'] at h
        obtain ⟨⟨⟨⟨⟨rfl, rfl⟩, h2⟩, h3⟩, h4⟩, h5⟩ := h
        exact s_chainT g h2 (iha.e g h3) (ihb.e g h4) (ihc.e g h5)
      | [], _ => cases h
      | [_], _ => cases h
      | [_, _], [] => cases h
      | [_, _], [_] => cases h
      | [_, _], _ :: _ :: _ :: _ => cases h
      | _ :: _ :: _ :: _, _ => cases h
    | _ => cases h
theorem snd_and (a : C) (b : C) (iha : Snd E bl N a) (ihb : Snd E bl N b) : Snd E bl N (C.and a b) := by
  refine ⟨?_, no_a fun _ _ => rfl, no_p fun _ _ _ => rfl, ?_, ?_, no_i fun _ _ => rfl, no_g fun _ _ => rfl, no_gs fun _ _ => rfl, no_s fun _ _ _ => rfl, no_b fun _ _ _ => rfl⟩
  · intro X sc so j Wx g x h
    cases x with
    | BoolOp op vs pos =>
      cases op with
      | And =>
        match vs with
        | x :: y :: rest =>
          rw [chkE] at h
          simp only [Bool.and_eq_true, decide_eq_true_eq, Bool.not_eq_true'] at h
          exact s_and (iha.e g h.1) (ihb.e g h.2)
        | [] => cases h
        | [_] => cases h
      | _ => cases h
    | _ => cases h
  · intro X sc so j Wx g x h
    cases x with
    | BoolOp op vs pos =>
      cases op with
      | And =>
        match vs with
        | x :: y :: rest =>
          rw [chkT] at h
          simp only [Bool.and_eq_true, decide_eq_true_eq, Bool.not_eq_true'] at h
          exact (s_andT (iha.t g h.1) (ihb.w g h.2)).pt
        | [] => cases h
        | [_] => cases h
      | _ => cases h
    | _ => cases h
  · intro X sc so j Wx g o vs p h
    cases o with
    | And =>
      match vs with
      | x :: y :: rest =>
        rw [chkT] at h
        simp only [Bool.and_eq_true, decide_eq_true_eq, Bool.not_eq_true'] at h
        exact s_andT (iha.t g h.1) (ihb.w g h.2)
      | [] => cases h
      | [_] => cases h
    | _ => cases h
theorem snd_or (a : C) (b : C) (iha : Snd E bl N a) (ihb : Snd E bl N b) : Snd E bl N (C.or a b) := by
  refine ⟨?_, no_a fun _ _ => rfl, no_p fun _ _ _ => rfl, ?_, ?_, no_i fun _ _ => rfl, no_g fun _ _ => rfl, no_gs fun _ _ => rfl, no_s fun _ _ _ => rfl, no_b fun _ _ _ => rfl⟩
  · intro X sc so j Wx g x h
    cases x with
    | BoolOp op vs pos =>
      cases op with
      | Or =>
        match vs with
        | x :: y :: rest =>
          rw [chkE] at h
          simp only [Bool.and_eq_true, decide_eq_true_eq, Bool.not_eq_true'] at h
          exact s_or (iha.e g h.1) (ihb.e g h.2)
        | [] => cases h
        | [_] => cases h
      | _ => cases h
    | _ => cases h
  · intro X sc so j Wx g x h
    cases x with
    | BoolOp op vs pos =>
      cases op with
      | Or =>
        match vs with
        | x :: y :: rest =>
          rw [chkT] at h
          simp only [Bool.and_eq_true, decide_eq_true_eq, Bool.not_eq_true'] at h
          exact (s_orT (iha.t g h.1) (ihb.w g h.2)).pt
        | [] => cases h
        | [_] => cases h
      | _ => cases h
    | _ => cases h
  · intro X sc so j Wx g o vs p h
    cases o with
    | Or =>
      match vs with
      | x :: y :: rest =>
        rw [chkT] at h
        simp only [Bool.and_eq_true, decide_eq_true_eq, Bool.not_eq_true'] at h
        exact s_orT (iha.t g h.1) (ihb.w g h.2)
      | [] => cases h
      | [_] => cases h
    | _ => cases h
theorem snd_one (a : C) (iha : Snd E bl N a) : Snd E bl N (C.one a) := by
  refine ⟨?_, no_a fun _ _ => rfl, no_p fun _ _ _ => rfl, ?_, ?_, no_i fun _ _ => rfl, no_g fun _ _ => rfl, no_gs fun _ _ => rfl, no_s fun _ _ _ => rfl, no_b fun _ _ _ => rfl⟩
  · intro X sc so j Wx g x h
    cases x with
    | BoolOp op vs pos =>
      match vs with
      | [x] => exact s_one (iha.e g h)
      | [] => cases op <;> cases h
      | _ :: _ :: _ => cases op <;> cases h
    | _ => cases h
  · intro X sc so j Wx g x h
    cases x with
    | BoolOp op vs pos =>
      match vs with
      | [x] => exact (s_oneT (iha.t g h)).pt
      | [] => cases op <;> cases h
      | _ :: _ :: _ => cases op <;> cases h
    | _ => cases h
  · intro X sc so j Wx g o vs p h
    match vs with
    | [x] => exact s_oneT (iha.t g h)
    | [] => cases o <;> cases h
    | _ :: _ :: _ => cases o <;> cases h
theorem snd_not (a : C) (iha : Snd E bl N a) : Snd E bl N (C.not a) := by
  refine ⟨?_, no_a fun _ _ => rfl, no_p fun _ _ _ => rfl, ?_, no_w fun _ _ _ _ => rfl, no_i fun _ _ => rfl, no_g fun _ _ => rfl, no_gs fun _ _ => rfl, no_s fun _ _ _ => rfl, no_b fun _ _ _ => rfl⟩
  · intro X sc so j Wx g x h
    cases x with
    | UnaryOp o y pos =>
      cases o with
      | Not => exact s_not (iha.e g h)
      | _ => cases h
    | _ => cases h
  · intro X sc so j Wx g x h
    cases x with
    | UnaryOp o y pos =>
      cases o with
      | Not => exact s_notT (iha.t g h)
      | _ => cases h
    | _ => cases h
theorem snd_ife (t : C) (a : C) (b : C) (iht : Snd E bl N t) (iha : Snd E bl N a) (ihb : Snd E bl N b) : Snd E bl N (C.ife t a b) := by
  refine ⟨?_, no_a fun _ _ => rfl, no_p fun _ _ _ => rfl, no_t fun _ _ => rfl, no_w fun _ _ _ _ => rfl, no_i fun _ _ => rfl, no_g fun _ _ => rfl, no_gs fun _ _ => rfl, no_s fun _ _ _ => rfl, no_b fun _ _ _ => rfl⟩
  · intro X sc so j Wx g x h
    cases x with
    | IfExp c y z pos =>
      rw [chkE] at h
      simp only [Bool.and_eq_true, decide_eq_true_eq, Bool.not_eq_true'] at h
      obtain ⟨⟨h1, h2⟩, h3⟩ := h
      exact s_ife (iht.t g h1) (iha.e g h2) (ihb.e g h3)
    | _ => cases h
theorem snd_tup (as : C) (ihas : Snd E bl N as) : Snd E bl N (C.tup as) := by
  refine ⟨?_, no_a fun _ _ => rfl, no_p fun _ _ _ => rfl, no_t fun _ _ => rfl, no_w fun _ _ _ _ => rfl, no_i fun _ _ => rfl, no_g fun _ _ => rfl, no_gs fun _ _ => rfl, no_s fun _ _ _ => rfl, no_b fun _ _ _ => rfl⟩
  · intro X sc so j Wx g x h
    cases x with
    | Tuple es n pos =>
      exact s_tup (ihas.a g h)
    | _ => cases h
theorem snd_lst (m : Bool) (as : C) (ihas : Snd E bl N as) : Snd E bl N (C.lst m as) := by
  refine ⟨?_, no_a fun _ _ => rfl, no_p fun _ _ _ => rfl, no_t fun _ _ => rfl, no_w fun _ _ _ _ => rfl, no_i fun _ _ => rfl, no_g fun _ _ => rfl, no_gs fun _ _ => rfl, no_s fun _ _ _ => rfl, no_b fun _ _ _ => rfl⟩
  · intro X sc so j Wx g x h
    cases x with
    | List es pos =>
      exact s_lst (ihas.a g h)
    | _ => cases h
theorem snd_dic (as : C) (ihas : Snd E bl N as) : Snd E bl N (C.dic as) := by
  refine ⟨?_, no_a fun _ _ => rfl, no_p fun _ _ _ => rfl, no_t fun _ _ => rfl, no_w fun _ _ _ _ => rfl, no_i fun _ _ => rfl, no_g fun _ _ => rfl, no_gs fun _ _ => rfl, no_s fun _ _ _ => rfl, no_b fun _ _ _ => rfl⟩
  · intro X sc so j Wx g x h
    cases x with
    | Dict ks vs pos =>
      rw [chkE] at h
      simp only [Bool.and_eq_true, decide_eq_true_eq, Bool.not_eq_true'] at h
      obtain ⟨⟨⟨⟨h1, h2⟩, h3⟩, h4⟩, h5⟩ := h
      exact s_dic (ihas.p g h5) h1 h2 (fun z => by rw [z] at h3; cases h3) h4
    | _ => cases h
theorem snd_pcons (k : C) (v : C) (r : C) (ihk : Snd E bl N k) (ihv : Snd E bl N v) (ihr : Snd E bl N r) : Snd E bl N (C.pcons k v r) := by
  refine ⟨no_e fun _ _ => rfl, no_a fun _ _ => rfl, ?_, no_t fun _ _ => rfl, no_w fun _ _ _ _ => rfl, no_i fun _ _ => rfl, no_g fun _ _ => rfl, no_gs fun _ _ => rfl, no_s fun _ _ _ => rfl, no_b fun _ _ _ => rfl⟩
  · intro X sc so j Wx g ks vs pos h
    match ks, vs with
    | some k' :: ks, v' :: vs =>
      rw [chkP] at h
      simp only [Bool.and_eq_true, decide_eq_true_eq, Bool.not_eq_true'] at h
      obtain ⟨⟨h1, h2⟩, h3⟩ := h
      exact pps_cons (ihk.e g h1) (ihv.e g h2) (ihr.p g h3)
    | [], _ => cases h
    | none :: _, _ => cases h
    | some _ :: _, [] => cases h
theorem snd_nil : Snd E bl N (C.nil) := by
  refine ⟨no_e fun _ _ => rfl, ?_, ?_, no_t fun _ _ => rfl, no_w fun _ _ _ _ => rfl, no_i fun _ _ => rfl, no_g fun _ _ => rfl, ?_, no_s fun _ _ _ => rfl, no_b fun _ _ _ => rfl⟩
  · intro X sc so j Wx g x h
    cases x with
    | nil => exact s_nil
    | cons => cases h
  · intro X sc so j Wx g ks vs pos h
    match ks, vs with
    | [], [] => exact pps_nil
    | [], _ :: _ => cases h
    | _ :: _, _ => cases h
  · intro X sc so j Wx g x h
    cases x with
    | nil => exact s_gnil
    | cons => cases h
theorem snd_cons (a : C) (as : C) (iha : Snd E bl N a) (ihas : Snd E bl N as) : Snd E bl N (C.cons a as) := by
  refine ⟨no_e fun _ _ => rfl, ?_, no_p fun _ _ _ => rfl, no_t fun _ _ => rfl, no_w fun _ _ _ _ => rfl, no_i fun _ _ => rfl, no_g fun _ _ => rfl, ?_, no_s fun _ _ _ => rfl, no_b fun _ _ _ => rfl⟩
  · intro X sc so j Wx g x h
    cases x with
    | nil => cases h
    | cons e es =>
      rw [chkA] at h
      simp only [Bool.and_eq_true, decide_eq_true_eq, Bool.not_eq_true'] at h
      obtain ⟨⟨h1, h2⟩, h3⟩ := h
      exact s_cons h1 (iha.e g h2) (ihas.a g h3)
  · intro X sc so j Wx g x h
    cases x with
    | nil => cases h
    | cons e es =>
      rw [chkGs] at h
      simp only [Bool.and_eq_true, decide_eq_true_eq, Bool.not_eq_true'] at h
      obtain ⟨⟨h1, h2⟩, h3⟩ := h
      exact s_gcons h1 (iha.g g h2) (ihas.gs g h3)
theorem snd_call (f : Str) (as : C) (ihas : Snd E bl N as) : Snd E bl N (C.call f as) := by
  refine ⟨?_, no_a fun _ _ => rfl, no_p fun _ _ _ => rfl, no_t fun _ _ => rfl, no_w fun _ _ _ _ => rfl, no_i fun _ _ => rfl, no_g fun _ _ => rfl, no_gs fun _ _ => rfl, no_s fun _ _ _ => rfl, no_b fun _ _ _ => rfl⟩
  · intro X sc so j Wx g x h
    cases x with
    | Call f es kws pos =>
      cases f with
      | Name y p =>
        match es, kws with
        | e :: es, [] =>
          rw [chkE] at h
          simp only [Bool.and_eq_true, decide_eq_true_eq, Bool.not_eq_true'] at h
          obtain ⟨⟨⟨⟨rfl, h2⟩, h3⟩, h4⟩, h5⟩ := h
          exact s_call g (glB_ok h2) h3 h4 (ihas.a g h5)
        | [], _ => cases h
        | _ :: _, _ :: _ => cases h
      | _ => cases h
    | _ => cases h
theorem snd_bi (m : Bool) (f : Bi) (as : C) (ihas : Snd E bl N as) : Snd E bl N (C.bi m f as) := by
  refine ⟨?_, no_a fun _ _ => rfl, no_p fun _ _ _ => rfl, no_t fun _ _ => rfl, no_w fun _ _ _ _ => rfl, no_i fun _ _ => rfl, no_g fun _ _ => rfl, no_gs fun _ _ => rfl, no_s fun _ _ _ => rfl, no_b fun _ _ _ => rfl⟩
  · intro X sc so j Wx g x h
    cases x with
    | Call f es kws pos =>
      cases f with
      | Name y p =>
        match es, kws with
        | e :: es, [] =>
          rw [chkE] at h
          simp only [Bool.and_eq_true, decide_eq_true_eq, Bool.not_eq_true'] at h
          obtain ⟨⟨⟨⟨rfl, h2⟩, h3⟩, h4⟩, h5⟩ := h
          exact s_bi g (glB_ok h2) h3 h4 (ihas.a g h5)
        | [], _ => cases h
        | _ :: _, _ :: _ => cases h
      | _ => cases h
    | _ => cases h
theorem snd_me (f : Me) (o : C) (as : C) (iho : Snd E bl N o) (ihas : Snd E bl N as) : Snd E bl N (C.me f o as) := by
  refine ⟨?_, no_a fun _ _ => rfl, no_p fun _ _ _ => rfl, no_t fun _ _ => rfl, no_w fun _ _ _ _ => rfl, no_i fun _ _ => rfl, no_g fun _ _ => rfl, no_gs fun _ _ => rfl, no_s fun _ _ _ => rfl, no_b fun _ _ _ => rfl⟩
  · intro X sc so j Wx g x h
    cases x with
    | Call f es kws pos =>
      cases f with
      | Attribute ov n apos =>
        match es, kws with
        | e :: es, [] =>
          rw [chkE] at h
          simp only [Bool.and_eq_true, decide_eq_true_eq, Bool.not_eq_true'] at h
          obtain ⟨⟨⟨⟨⟨⟨rfl, h2⟩, h3⟩, h4⟩, h5⟩, h6⟩, h7⟩ := h
          exact s_me h2 h3 h4 h5 (iho.e g h6) (ihas.a g h7)
        | [], _ => cases h
        | _ :: _, _ :: _ => cases h
      | _ => cases h
    | _ => cases h
theorem snd_ix (a : C) (b : C) (iha : Snd E bl N a) (ihb : Snd E bl N b) : Snd E bl N (C.ix a b) := by
  refine ⟨?_, no_a fun _ _ => rfl, no_p fun _ _ _ => rfl, no_t fun _ _ => rfl, no_w fun _ _ _ _ => rfl, no_i fun _ _ => rfl, no_g fun _ _ => rfl, no_gs fun _ _ => rfl, no_s fun _ _ _ => rfl, no_b fun _ _ _ => rfl⟩
  · intro X sc so j Wx g x h
    cases x with
    | Subscript v s pos =>
      rw [chkE] at h
      simp only [Bool.and_eq_true, decide_eq_true_eq, Bool.not_eq_true'] at h
      obtain ⟨⟨h1, h2⟩, h3⟩ := h
      exact s_ix h1 (iha.e g h2) (ihb.e g h3)
    | _ => cases h
theorem snd_lc (m : Bool) (own : List (Str × Nat)) (tg : C) (it : C) (ts : C) (e : C) (ihtg : Snd E bl N tg) (ihit : Snd E bl N it) (ihts : Snd E bl N ts) (ihe : Snd E bl N e) : Snd E bl N (C.lc m own tg it ts e) := by
  refine ⟨?_, no_a fun _ _ => rfl, no_p fun _ _ _ => rfl, no_t fun _ _ => rfl, no_w fun _ _ _ _ => rfl, no_i fun _ _ => rfl, no_g fun _ _ => rfl, no_gs fun _ _ => rfl, no_s fun _ _ _ => rfl, no_b fun _ _ _ => rfl⟩
  · intro X sc so j Wx g x h
    cases x with
    | ListComp elt gs scope pos =>
      match gs with
      | [⟨t, iter, ifs, k⟩] =>
        rw [chkE] at h
        simp only [Bool.and_eq_true, decide_eq_true_eq, Bool.not_eq_true'] at h
        obtain ⟨⟨⟨⟨⟨⟨⟨rfl, h1⟩, h2⟩, h3⟩, h4⟩, h5⟩, h6⟩, h7⟩ := h
        have ok := blkOk_by h1
        have hsub : ∀ i ∈ slots tg, i ∈ own.map (·.2) := fun i hi => of_decide_eq_true (List.all_eq_true.mp h3 i hi)
        have hts : ∀ s H C cl fp, PTs (X.blk s H scope (compEnvC scope cl C X.env) fp) ifs (RdT (kg X) E W0x ts) := by
          intro s H C cl fp
          match ifs, h6 with
          | [], h6 =>
            have e : ts = .nil := by cases ts <;> first | rfl | cases h6
            subst e
            exact s_tests0 (k := kg X)
          | [c], h6 => exact s_tests1 (ihts.t (g.blk ok s H C cl fp) h6)
          | _ :: _ :: _, h6 => cases h6
        have key := s_lc (m := m) (pos := pos) g ok h2 hsub (ihit.i g h4) (fun s H C cl fp => ihtg.g (g.blk ok s H C cl fp) h5) hts (fun s H C cl fp => ihe.e (g.blk ok s H C cl fp) h7)
        exact key.1.imp key.2
      | [] => cases h
      | ⟨_, _, _, _⟩ :: _ :: _ => cases h
    | _ => cases h
theorem snd_range1 (a : C) (iha : Snd E bl N a) : Snd E bl N (C.range1 a) := by
  refine ⟨no_e fun _ _ => rfl, no_a fun _ _ => rfl, no_p fun _ _ _ => rfl, no_t fun _ _ => rfl, no_w fun _ _ _ _ => rfl, ?_, no_g fun _ _ => rfl, no_gs fun _ _ => rfl, no_s fun _ _ _ => rfl, no_b fun _ _ _ => rfl⟩
  · intro X sc so j Wx g tg x h
    cases x with
    | Call f es kws pos =>
      cases f with
      | Name y p =>
        match es, kws with
        | [e], [] =>
          rw [chkI] at h
          simp only [Bool.and_eq_true, decide_eq_true_eq, Bool.not_eq_true'] at h
          obtain ⟨⟨⟨⟨rfl, h2⟩, h3⟩, h4⟩, h5⟩ := h
          exact s_range1 g (glB_ok h2) h3 h4 (iha.e g h5)
        | [], _ => cases h
        | [_], _ :: _ => cases h
        | _ :: _ :: _, _ => cases h
      | _ => cases h
    | _ => cases h
theorem snd_range2 (a : C) (b : C) (iha : Snd E bl N a) (ihb : Snd E bl N b) : Snd E bl N (C.range2 a b) := by
  refine ⟨no_e fun _ _ => rfl, no_a fun _ _ => rfl, no_p fun _ _ _ => rfl, no_t fun _ _ => rfl, no_w fun _ _ _ _ => rfl, ?_, no_g fun _ _ => rfl, no_gs fun _ _ => rfl, no_s fun _ _ _ => rfl, no_b fun _ _ _ => rfl⟩
  · intro X sc so j Wx g tg x h
    cases x with
    | Call f es kws pos =>
      cases f with
      | Name y p =>
        match es, kws with
        | [e, e'], [] =>
          rw [chkI] at h
          simp only [Bool.and_eq_true, decide_eq_true_eq, Bool.not_eq_true'] at h
          obtain ⟨⟨⟨⟨⟨⟨rfl, h2⟩, h3⟩, h4⟩, h5⟩, h6⟩, h7⟩ := h
          exact s_range2 g (glB_ok h2) h3 h4 h5 (iha.e g h6) (ihb.e g h7)
        | [], _ => cases h
        | [_], _ => cases h
        | [_, _], _ :: _ => cases h
        | _ :: _ :: _ :: _, _ => cases h
      | _ => cases h
    | _ => cases h
theorem snd_over (a : C) (iha : Snd E bl N a) : Snd E bl N (C.over a) := by
  refine ⟨no_e fun _ _ => rfl, no_a fun _ _ => rfl, no_p fun _ _ _ => rfl, no_t fun _ _ => rfl, no_w fun _ _ _ _ => rfl, ?_, no_g fun _ _ => rfl, no_gs fun _ _ => rfl, no_s fun _ _ _ => rfl, no_b fun _ _ _ => rfl⟩
  · intro X sc so j Wx g tg x h
    rw [chkI] at h
    exact s_over (iha.e g h)
theorem snd_overS (a : C) (iha : Snd E bl N a) : Snd E bl N (C.overS a) := by
  refine ⟨no_e fun _ _ => rfl, no_a fun _ _ => rfl, no_p fun _ _ _ => rfl, no_t fun _ _ => rfl, no_w fun _ _ _ _ => rfl, ?_, no_g fun _ _ => rfl, no_gs fun _ _ => rfl, no_s fun _ _ _ => rfl, no_b fun _ _ _ => rfl⟩
  · intro X sc so j Wx g tg x h
    rw [chkI] at h
    exact s_overS (iha.e g h)
theorem snd_tn (i : Nat) : Snd E bl N (C.tn i) := by
  refine ⟨no_e fun _ _ => rfl, no_a fun _ _ => rfl, no_p fun _ _ _ => rfl, no_t fun _ _ => rfl, no_w fun _ _ _ _ => rfl, no_i fun _ _ => rfl, ?_, no_gs fun _ _ => rfl, no_s fun _ _ _ => rfl, no_b fun _ _ _ => rfl⟩
  · intro X sc so j Wx g x h
    cases x with
    | Name y p =>
      rw [chkG] at h
      simp only [Bool.and_eq_true, decide_eq_true_eq, Bool.not_eq_true'] at h
      obtain ⟨h1, h2⟩ := h
      exact s_tn g h1 (locB_ok h2)
    | _ => cases h
theorem snd_tt (ts : C) (ihts : Snd E bl N ts) : Snd E bl N (C.tt ts) := by
  refine ⟨no_e fun _ _ => rfl, no_a fun _ _ => rfl, no_p fun _ _ _ => rfl, no_t fun _ _ => rfl, no_w fun _ _ _ _ => rfl, no_i fun _ _ => rfl, ?_, no_gs fun _ _ => rfl, no_s fun _ _ _ => rfl, no_b fun _ _ _ => rfl⟩
  · intro X sc so j Wx g x h
    cases x with
    | Tuple es n p =>
      rw [chkG] at h
      simp only [Bool.and_eq_true, decide_eq_true_eq, Bool.not_eq_true'] at h
      obtain ⟨⟨h1, h2⟩, h3⟩ := h
      exact s_tt g h1 h2 (ihts.gs g h3)
    | _ => cases h
theorem snd_pass : Snd E bl N (C.pass) := by
  refine ⟨no_e fun _ _ => rfl, no_a fun _ _ => rfl, no_p fun _ _ _ => rfl, no_t fun _ _ => rfl, no_w fun _ _ _ _ => rfl, no_i fun _ _ => rfl, no_g fun _ _ => rfl, no_gs fun _ _ => rfl, ?_, ?_⟩
  · intro X sc so j Wx g x h
    cases x with
    | Pass p =>
      exact s_pass
    | _ => cases h
  · intro X sc so j Wx g x h
    cases x with
    | nil => exact s_end
    | cons => cases h
theorem snd_brk : Snd E bl N (C.brk) := by
  refine ⟨no_e fun _ _ => rfl, no_a fun _ _ => rfl, no_p fun _ _ _ => rfl, no_t fun _ _ => rfl, no_w fun _ _ _ _ => rfl, no_i fun _ _ => rfl, no_g fun _ _ => rfl, no_gs fun _ _ => rfl, ?_, no_b fun _ _ _ => rfl⟩
  · intro X sc so j Wx g x h
    cases x with
    | Break p =>
      exact s_brk
    | _ => cases h
theorem snd_cont : Snd E bl N (C.cont) := by
  refine ⟨no_e fun _ _ => rfl, no_a fun _ _ => rfl, no_p fun _ _ _ => rfl, no_t fun _ _ => rfl, no_w fun _ _ _ _ => rfl, no_i fun _ _ => rfl, no_g fun _ _ => rfl, no_gs fun _ _ => rfl, ?_, no_b fun _ _ _ => rfl⟩
  · intro X sc so j Wx g x h
    cases x with
    | Continue p =>
      exact s_cont
    | _ => cases h
theorem snd_seq (a : C) (b : C) (iha : Snd E bl N a) (ihb : Snd E bl N b) : Snd E bl N (C.seq a b) := by
  refine ⟨no_e fun _ _ => rfl, no_a fun _ _ => rfl, no_p fun _ _ _ => rfl, no_t fun _ _ => rfl, no_w fun _ _ _ _ => rfl, no_i fun _ _ => rfl, no_g fun _ _ => rfl, no_gs fun _ _ => rfl, no_s fun _ _ _ => rfl, ?_⟩
  · intro X sc so j Wx g x h
    cases x with
    | nil => cases h
    | cons s r =>
      rw [chkB] at h
      simp only [Bool.and_eq_true, decide_eq_true_eq, Bool.not_eq_true'] at h
      obtain ⟨h1, h2⟩ := h
      exact s_seq (iha.s g h1) (ihb.b g h2)
theorem snd_fseq (i : Nat) (b : C) (ihb : Snd E bl N b) : Snd E bl N (C.fseq i b) := by
  refine ⟨no_e fun _ _ => rfl, no_a fun _ _ => rfl, no_p fun _ _ _ => rfl, no_t fun _ _ => rfl, no_w fun _ _ _ _ => rfl, no_i fun _ _ => rfl, no_g fun _ _ => rfl, no_gs fun _ _ => rfl, no_s fun _ _ _ => rfl, ?_⟩
  · intro X sc so j Wx g x h
    rw [chkB] at h
    exact s_fseq (ihb.b g h)
theorem snd_asg (t : C) (e : C) (iht : Snd E bl N t) (ihe : Snd E bl N e) : Snd E bl N (C.asg t e) := by
  refine ⟨no_e fun _ _ => rfl, no_a fun _ _ => rfl, no_p fun _ _ _ => rfl, no_t fun _ _ => rfl, no_w fun _ _ _ _ => rfl, no_i fun _ _ => rfl, no_g fun _ _ => rfl, no_gs fun _ _ => rfl, ?_, no_b fun _ _ _ => rfl⟩
  · intro X sc so j Wx g x h
    cases x with
    | Assign tgs v p =>
      match tgs with
      | [tg] =>
        rw [chkS] at h
        simp only [Bool.and_eq_true, decide_eq_true_eq, Bool.not_eq_true'] at h
        obtain ⟨⟨⟨⟨h1, h2⟩, h3⟩, h4⟩, h5⟩ := h
        exact s_asg g h1 h2 h3 (ihe.e g h4) (iht.g g h5)
      | [] => cases h
      | _ :: _ :: _ => cases h
    | _ => cases h
theorem snd_asgL (i : Nat) (m : Bool) (own : List (Str × Nat)) (tg : C) (it : C) (ts : C) (e : C) (ihtg : Snd E bl N tg) (ihit : Snd E bl N it) (ihts : Snd E bl N ts) (ihe : Snd E bl N e) : Snd E bl N (C.asgL i m own tg it ts e) := by
  refine ⟨no_e fun _ _ => rfl, no_a fun _ _ => rfl, no_p fun _ _ _ => rfl, no_t fun _ _ => rfl, no_w fun _ _ _ _ => rfl, no_i fun _ _ => rfl, no_g fun _ _ => rfl, no_gs fun _ _ => rfl, ?_, no_b fun _ _ _ => rfl⟩
  · intro X sc so j Wx g x h
    cases x with
    | Assign tgs v p =>
      match tgs with
      | [.Name y py] =>
        cases v with
        | ListComp elt gs scope pos =>
          match gs with
          | [⟨t, iter, ifs, k⟩] =>
            rw [chkS] at h
            simp only [Bool.and_eq_true, decide_eq_true_eq, Bool.not_eq_true'] at h
            obtain ⟨⟨⟨⟨⟨⟨⟨⟨⟨⟨⟨g1, g2⟩, g3⟩, g4⟩, rfl⟩, h1⟩, h2⟩, h3⟩, h4⟩, h5⟩, h6⟩, h7⟩ := h
            have ok := blkOk_by h1
            have hsub : ∀ i ∈ slots tg, i ∈ own.map (·.2) := fun i hi => of_decide_eq_true (List.all_eq_true.mp h3 i hi)
            have hts : ∀ s H C cl fp, PTs (X.blk s H scope (compEnvC scope cl C X.env) fp) ifs (RdT (kg X) E W0x ts) := by
              intro s H C cl fp
              match ifs, h6 with
              | [], h6 =>
                have e : ts = .nil := by cases ts <;> first | rfl | cases h6
                subst e
                exact s_tests0 (k := kg X)
              | [c], h6 => exact s_tests1 (ihts.t (g.blk ok s H C cl fp) h6)
              | _ :: _ :: _, h6 => cases h6
            have hyl : sc.names.lookup y = some .local := by
              split at g2
              · assumption
              · cases g2
            exact s_asgL (m := m) g g1 hyl g3 g4 ok h2 hsub (ihit.i g h4) (fun s H C cl fp => ihtg.g (g.blk ok s H C cl fp) h5) hts (fun s H C cl fp => ihe.e (g.blk ok s H C cl fp) h7)
          | [] => cases h
          | ⟨_, _, _, _⟩ :: _ :: _ => cases h
        | _ => cases h
      | [] => cases h
      | t :: _ :: _ => cases t <;> cases h
      | [.BoolOp ..] | [.NamedExpr ..] | [.BinOp ..] | [.UnaryOp ..] | [.Lambda ..] | [.IfExp ..] | [.Dict ..] | [.Set ..] | [.ListComp ..] | [.SetComp ..] | [.DictComp ..] | [.GeneratorExp ..] | [.Await ..] | [.Yield ..] | [.YieldFrom ..] | [.Compare ..] | [.Call ..] | [.FormattedValue ..] | [.JoinedStr ..] | [.Constant ..] | [.Attribute ..] | [.Subscript ..] | [.Starred ..] | [.List ..] | [.Tuple ..] | [.Slice ..] => cases h
    | _ => cases h
theorem snd_aix (o : C) (i : C) (e : C) (iho : Snd E bl N o) (ihi : Snd E bl N i) (ihe : Snd E bl N e) : Snd E bl N (C.aix o i e) := by
  refine ⟨no_e fun _ _ => rfl, no_a fun _ _ => rfl, no_p fun _ _ _ => rfl, no_t fun _ _ => rfl, no_w fun _ _ _ _ => rfl, no_i fun _ _ => rfl, no_g fun _ _ => rfl, no_gs fun _ _ => rfl, ?_, no_b fun _ _ _ => rfl⟩
  · intro X sc so j Wx g x h
    unfold chkS at h
    split at h
    all_goals first | (cases h; done) | skip
    all_goals (have hz := ‹C.aix _ _ _ = _›; first | (cases hz; done) | skip)
    all_goals cases hz
    simp only [Bool.and_eq_true, decide_eq_true_eq, Bool.not_eq_true'] at h
    obtain ⟨⟨⟨⟨h1, h2⟩, h3⟩, h4⟩, h5⟩ := h
    exact s_aix h1 h2 (iho.e g h3) (ihi.e g h4) (ihe.e g h5)
theorem snd_par (i : Nat) (k : Nat) (a : C) (b : C) (iha : Snd E bl N a) (ihb : Snd E bl N b) : Snd E bl N (C.par i k a b) := by
  refine ⟨no_e fun _ _ => rfl, no_a fun _ _ => rfl, no_p fun _ _ _ => rfl, no_t fun _ _ => rfl, no_w fun _ _ _ _ => rfl, no_i fun _ _ => rfl, no_g fun _ _ => rfl, no_gs fun _ _ => rfl, ?_, no_b fun _ _ _ => rfl⟩
  · intro X sc so j Wx g x h
    unfold chkS at h
    split at h
    all_goals first | (cases h; done) | skip
    all_goals (have hz := ‹C.par _ _ _ _ = _›; first | (cases hz; done) | skip)
    all_goals cases hz
    simp only [Bool.and_eq_true, decide_eq_true_eq, Bool.not_eq_true'] at h
    obtain ⟨⟨⟨⟨h1, h2⟩, h3⟩, h4⟩, h5⟩ := h
    exact s_par g h1 h2 h3 (iha.e g h4) (ihb.e g h5)
theorem snd_ret (e : C) (ihe : Snd E bl N e) : Snd E bl N (C.ret e) := by
  refine ⟨no_e fun _ _ => rfl, no_a fun _ _ => rfl, no_p fun _ _ _ => rfl, no_t fun _ _ => rfl, no_w fun _ _ _ _ => rfl, no_i fun _ _ => rfl, no_g fun _ _ => rfl, no_gs fun _ _ => rfl, ?_, no_b fun _ _ _ => rfl⟩
  · intro X sc so j Wx g x h
    cases x with
    | Return v p =>
      cases v with
      | some v => exact s_ret (ihe.e g h)
      | none => cases h
    | _ => cases h
theorem snd_ret0 : Snd E bl N (C.ret0) := by
  refine ⟨no_e fun _ _ => rfl, no_a fun _ _ => rfl, no_p fun _ _ _ => rfl, no_t fun _ _ => rfl, no_w fun _ _ _ _ => rfl, no_i fun _ _ => rfl, no_g fun _ _ => rfl, no_gs fun _ _ => rfl, ?_, no_b fun _ _ _ => rfl⟩
  · intro X sc so j Wx g x h
    cases x with
    | Return v p =>
      cases v with
      | some v => cases h
      | none => exact s_ret0
    | _ => cases h
theorem snd_ifs (t : C) (a : C) (b : C) (iht : Snd E bl N t) (iha : Snd E bl N a) (ihb : Snd E bl N b) : Snd E bl N (C.ifs t a b) := by
  refine ⟨no_e fun _ _ => rfl, no_a fun _ _ => rfl, no_p fun _ _ _ => rfl, no_t fun _ _ => rfl, no_w fun _ _ _ _ => rfl, no_i fun _ _ => rfl, no_g fun _ _ => rfl, no_gs fun _ _ => rfl, ?_, no_b fun _ _ _ => rfl⟩
  · intro X sc so j Wx g x h
    cases x with
    | If c p q pos =>
      rw [chkS] at h
      simp only [Bool.and_eq_true, decide_eq_true_eq, Bool.not_eq_true'] at h
      obtain ⟨⟨h1, h2⟩, h3⟩ := h
      exact s_ifs (iht.t g h1) (iha.b g h2) (ihb.b g h3)
    | _ => cases h
theorem snd_for_ (t : C) (it : C) (b : C) (iht : Snd E bl N t) (ihit : Snd E bl N it) (ihb : Snd E bl N b) : Snd E bl N (C.for_ t it b) := by
  refine ⟨no_e fun _ _ => rfl, no_a fun _ _ => rfl, no_p fun _ _ _ => rfl, no_t fun _ _ => rfl, no_w fun _ _ _ _ => rfl, no_i fun _ _ => rfl, no_g fun _ _ => rfl, no_gs fun _ _ => rfl, ?_, no_b fun _ _ _ => rfl⟩
  · intro X sc so j Wx g x h
    cases x with
    | For tg iter body els pos =>
      cases els with
      | nil =>
        rw [chkS] at h
        simp only [Bool.and_eq_true, decide_eq_true_eq, Bool.not_eq_true'] at h
        obtain ⟨⟨⟨h1, h2⟩, h3⟩, h4⟩ := h
        exact s_for g h1 (ihit.i g h2) (iht.g g h3) (ihb.b g h4)
      | cons => cases h
    | _ => cases h
theorem snd_drop (e : C) (ihe : Snd E bl N e) : Snd E bl N (C.drop e) := by
  refine ⟨no_e fun _ _ => rfl, no_a fun _ _ => rfl, no_p fun _ _ _ => rfl, no_t fun _ _ => rfl, no_w fun _ _ _ _ => rfl, no_i fun _ _ => rfl, no_g fun _ _ => rfl, no_gs fun _ _ => rfl, ?_, no_b fun _ _ _ => rfl⟩
  · intro X sc so j Wx g x h
    cases x with
    | Expr v p =>
      rw [chkS] at h
      simp only [Bool.and_eq_true, decide_eq_true_eq, Bool.not_eq_true'] at h
      obtain ⟨h1, h2⟩ := h
      exact s_drop h1 (ihe.e g h2)
    | _ => cases h
theorem snd (c : C) : Snd E bl N c := by
  induction c with
  | var i => exact snd_var i
  | kint i => exact snd_kint i
  | kstr i => exact snd_kstr i
  | kbl i => exact snd_kbl i
  | knon => exact snd_knon
  | glo y => exact snd_glo y
  | ty t => exact snd_ty t
  | bin m o a b iha ihb => exact snd_bin m o a b iha ihb
  | un o a iha => exact snd_un o a iha
  | tv a iha => exact snd_tv a iha
  | cmp o a b iha ihb => exact snd_cmp o a b iha ihb
  | chain o o' a b c iha ihb ihc => exact snd_chain o o' a b c iha ihb ihc
  | and a b iha ihb => exact snd_and a b iha ihb
  | or a b iha ihb => exact snd_or a b iha ihb
  | one a iha => exact snd_one a iha
  | not a iha => exact snd_not a iha
  | ife t a b iht iha ihb => exact snd_ife t a b iht iha ihb
  | tup as ihas => exact snd_tup as ihas
  | lst m as ihas => exact snd_lst m as ihas
  | dic as ihas => exact snd_dic as ihas
  | pcons k v r ihk ihv ihr => exact snd_pcons k v r ihk ihv ihr
  | nil => exact snd_nil
  | cons a as iha ihas => exact snd_cons a as iha ihas
  | call f as ihas => exact snd_call f as ihas
  | bi m f as ihas => exact snd_bi m f as ihas
  | me f o as iho ihas => exact snd_me f o as iho ihas
  | ix a b iha ihb => exact snd_ix a b iha ihb
  | lc m own tg it ts e ihtg ihit ihts ihe => exact snd_lc m own tg it ts e ihtg ihit ihts ihe
  | range1 a iha => exact snd_range1 a iha
  | range2 a b iha ihb => exact snd_range2 a b iha ihb
  | over a iha => exact snd_over a iha
  | overS a iha => exact snd_overS a iha
  | tn i => exact snd_tn i
  | tt ts ihts => exact snd_tt ts ihts
  | pass => exact snd_pass
  | brk => exact snd_brk
  | cont => exact snd_cont
  | seq a b iha ihb => exact snd_seq a b iha ihb
  | fseq i b ihb => exact snd_fseq i b ihb
  | asg t e iht ihe => exact snd_asg t e iht ihe
  | asgL i m own tg it ts e ihtg ihit ihts ihe => exact snd_asgL i m own tg it ts e ihtg ihit ihts ihe
  | aix o i e iho ihi ihe => exact snd_aix o i e iho ihi ihe
  | par i k a b iha ihb => exact snd_par i k a b iha ihb
  | ret e ihe => exact snd_ret e ihe
  | ret0 => exact snd_ret0
  | ifs t a b iht iha ihb => exact snd_ifs t a b iht iha ihb
  | for_ t it b iht ihit ihb => exact snd_for_ t it b iht ihit ihb
  | drop e ihe => exact snd_drop e ihe
end Itp

namespace Itp
open PySem PySem.Spec L2
/-! ### refs below n -/
mutual
def D.lo (n : Nat) : D → Bool
  | .tup xs => D.los n xs
  | .lst xs => D.los n xs
  | .dct ks vs => D.los n ks && D.los n vs
  | .ref m => decide (m < n)
  | _ => true
def D.los (n : Nat) : List D → Bool
  | [] => true
  | d :: ds => D.lo n d && D.los n ds
end
def MO.lo (n : Nat) : MO → Bool
  | .lst xs => D.los n xs
  | .dead => true
theorem los_ofKey (n : Nat) : ∀ l : List Key, D.los n (l.map ofKey) = true
  | [] => by simp only [List.map_nil, D.los]
  | .inl i :: l => by simp only [List.map_cons, D.los, ofKey, D.lo, los_ofKey n l, Bool.and_self]
  | .inr x :: l => by simp only [List.map_cons, D.los, ofKey, D.lo, los_ofKey n l, Bool.and_self]
theorem los_keys (n : Nat) : ∀ kvs : List (Key × V), D.los n (kvs.map fun kv => ofKey kv.1) = true
  | [] => by simp only [List.map_nil, D.los]
  | (.inl i, _) :: l => by
    rw [List.map_cons, D.los, los_keys n l]
    rfl
  | (.inr x, _) :: l => by
    rw [List.map_cons, D.los, los_keys n l]
    rfl
theorem los_keysT (n : Nat) : ∀ kvs : List (List Key × V), D.los n (kvs.map fun kv => .tup (kv.1.map ofKey)) = true
  | [] => by simp only [List.map_nil, D.los]
  | (ks, _) :: l => by simp only [List.map_cons, D.los, D.lo, los_ofKey, los_keysT n l, Bool.and_self]
mutual
theorem RepV.lo {k : Kg} {W : Wd} : ∀ {d : D} {v : V}, RepV k W d v → d.lo W.io.length = true
  | _, _, .non => by simp only [D.lo]
  | _, _, .bl _ => by simp only [D.lo]
  | _, _, .int _ => by simp only [D.lo]
  | _, _, .str _ => by simp only [D.lo]
  | _, _, .tup _ r => by simp only [D.lo]; exact RepVs.lo r
  | _, _, .lst _ r => by simp only [D.lo]; exact RepVs.lo r
  | _, _, .dK _ hk r => by simp only [D.lo, RepVs.lo r, Bool.and_true]; rw [hk]; exact los_keys _ _
  | _, _, .dT _ hk r => by simp only [D.lo, RepVs.lo r, Bool.and_true]; rw [hk]; exact los_keysT _ _
  | _, _, .scr _ => by simp only [D.lo]
  | _, _, .ref h => by simp only [D.lo]; exact decide_eq_true (List.getElem?_eq_some_iff.mp h).1
  | _, _, .ty _ => by simp only [D.lo]
  | _, _, .glo _ => by simp only [D.lo]
theorem RepVs.lo {k : Kg} {W : Wd} : ∀ {ds : List D} {vs : List V}, RepVs k W ds vs → D.los W.io.length ds = true
  | _, _, .nil => by simp only [D.los]
  | _, _, .cons h r => by simp only [D.los, RepV.lo h, RepVs.lo r, Bool.and_self]
end
mutual
/-- into a world with the same frozen things and the first things of the store alone -/
theorem RepV.down {k : Kg} {W W' : Wd} (hf : W'.fr = W.fr) {n : Nat} (hi : ∀ m, m < n → W'.io[m]? = W.io[m]?) : ∀ {d : D} {v : V}, RepV k W d v → d.lo n = true → RepV k W' d v
  | _, _, .non, _ => .non
  | _, _, .bl b, _ => .bl b
  | _, _, .int i, _ => .int i
  | _, _, .str x, _ => .str x
  | _, _, .tup h r, e => .tup (by rw [hf]; exact h) (RepVs.down hf hi r (by simpa only [D.lo] using e))
  | _, _, .lst h r, e => .lst (by rw [hf]; exact h) (RepVs.down hf hi r (by simpa only [D.lo] using e))
  | _, _, .dK h hk r, e => .dK (by rw [hf]; exact h) hk (RepVs.down hf hi r (by simp only [D.lo, Bool.and_eq_true] at e; exact e.2))
  | _, _, .dT h hk r, e => .dT (by rw [hf]; exact h) hk (RepVs.down hf hi r (by simp only [D.lo, Bool.and_eq_true] at e; exact e.2))
  | _, _, .scr h, _ => .scr (by rw [hf]; exact h)
  | _, _, .ref h, e => .ref (by
    simp only [D.lo, decide_eq_true_eq] at e
    rw [hi _ e]
    exact h)
  | _, _, .ty n, _ => .ty n
  | _, _, .glo h, _ => .glo h
theorem RepVs.down {k : Kg} {W W' : Wd} (hf : W'.fr = W.fr) {n : Nat} (hi : ∀ m, m < n → W'.io[m]? = W.io[m]?) : ∀ {ds : List D} {vs : List V}, RepVs k W ds vs → D.los n ds = true → RepVs k W' ds vs
  | _, _, .nil, _ => .nil
  | _, _, .cons h r, e => by
    simp only [D.los, Bool.and_eq_true] at e
    exact .cons (RepV.down hf hi h e.1) (RepVs.down hf hi r e.2)
end
mutual
theorem lo_mono {n m : Nat} (h : n ≤ m) : ∀ {d : D}, d.lo n = true → d.lo m = true
  | .non, _ => by simp only [D.lo]
  | .bl _, _ => by simp only [D.lo]
  | .int _, _ => by simp only [D.lo]
  | .str _, _ => by simp only [D.lo]
  | .tup xs, e => by simp only [D.lo] at e ⊢; exact los_mono h e
  | .lst xs, e => by simp only [D.lo] at e ⊢; exact los_mono h e
  | .dct ks vs, e => by simp only [D.lo, Bool.and_eq_true] at e ⊢; exact ⟨los_mono h e.1, los_mono h e.2⟩
  | .scr _, _ => by simp only [D.lo]
  | .ref _, e => by simp only [D.lo, decide_eq_true_eq] at e ⊢; omega
  | .ty _, _ => by simp only [D.lo]
  | .glo _, _ => by simp only [D.lo]
theorem los_mono {n m : Nat} (h : n ≤ m) : ∀ {ds : List D}, D.los n ds = true → D.los m ds = true
  | [], _ => by simp only [D.los]
  | d :: ds, e => by
    simp only [D.los, Bool.and_eq_true] at e ⊢
    exact ⟨lo_mono h e.1, los_mono h e.2⟩
end
/-- what a def's body leaves (S'), and what is told of it (S1); S ahead -/
structure Cut (S S1 S' : Sto) : Prop where
  len : S.length ≤ S1.length
  pre : S1 <+: S'
  old : ∀ (i : Nat) (m : MO), S1[i]? = some m → S[i]? = some m ∨ m.lo S1.length = true
theorem Cut.refl (S : Sto) : Cut S S S := ⟨Nat.le_refl _, List.prefix_refl _, fun _ _ h => .inl h⟩
theorem Cut.junk (S J : Sto) : Cut S S (S ++ J) := ⟨Nat.le_refl _, List.prefix_append _ _, fun _ _ h => .inl h⟩
def Exn.lo (n : Nat) (e : Exn) : Bool := match e.f with
  | none => true
  | some (_, d) => d.lo n
/-- the told function fits the run -/
def Meets (r : RS) (S : Sto) (q : R D) : Prop := match q with
  | .bad => True
  | .ok d S1 => ∃ S', (r = .rt d S' ∨ (d = .non ∧ ∃ G, r = .nx G S')) ∧ (S1 = S' ∨ (Cut S S1 S' ∧ d.lo S1.length = true))
  | .exc e S1 => ∃ G S', r = .exc e G S' ∧ (S1 = S' ∨ (Cut S S1 S' ∧ e.lo S1.length = true))
/-- a def's own run, told as it is -/
def runOf (r : RS) : R D := match r with
  | .rt d S => .ok d S
  | .nx _ S => .ok .non S
  | .exc e _ S => .exc e S
  | _ => .bad
theorem meets_runOf (r : RS) (S : Sto) : Meets r S (runOf r) := by
  cases r with
  | rt d S' => exact ⟨S', .inl rfl, .inl rfl⟩
  | nx G S' => exact ⟨S', .inr ⟨rfl, G, rfl⟩, .inl rfl⟩
  | exc e G S' => exact ⟨G, S', rfl, .inl rfl⟩
  | bk => trivial
  | ct => trivial
  | bad => trivial
def gam (N : List Str) (ds : List D) : Gam := ds.map some ++ List.replicate (N.length - ds.length) none
section
variable {k : Kg} {W W' : Wd} {S S1 S' : Sto} {H H' : Hp}
theorem cut_ok (rh : RepH k W S H) (fr : Frm W H W' H') (rh' : RepH k W' S' H') (c : Cut S S1 S') : Frm W H ⟨W'.fr, W'.io.take S1.length⟩ H' ∧ RepH k ⟨W'.fr, W'.io.take S1.length⟩ S1 H' ∧ ∀ m, m < S1.length → (⟨W'.fr, W'.io.take S1.length⟩ : Wd).io[m]? = W'.io[m]? := by
  have hi : ∀ m, m < S1.length → (⟨W'.fr, W'.io.take S1.length⟩ : Wd).io[m]? = W'.io[m]? := fun m hm => by
    show (W'.io.take S1.length)[m]? = W'.io[m]?
    rw [List.getElem?_take_of_lt hm]
  have hpre : W.io <+: W'.io.take S1.length := by
    obtain ⟨t, ht⟩ := fr.le.io
    rw [← ht, List.take_append, List.take_of_length_le (by rw [rh.len]; exact c.len)]
    exact List.prefix_append _ _
  have hll : S1.length ≤ S'.length := c.pre.length_le
  refine ⟨⟨⟨fr.le.fr, hpre⟩, fr.keep, fun a h => fr.new a (List.mem_of_mem_take h), fr.newf⟩, ⟨rh'.fr, fun n m e z => ?_, ?_, rh'.nd.sublist (List.take_sublist _ _), fun a ha => rh'.all a (List.mem_of_mem_take ha)⟩, hi⟩
  · have hn : n < S1.length := (List.getElem?_eq_some_iff.mp e).1
    have e' : S'[n]? = some m := by
      obtain ⟨t, ht⟩ := c.pre
      rw [← ht, List.getElem?_append_left hn]
      exact e
    obtain ⟨a, o, h1, h2, h3, h4⟩ := rh'.st n m e' z
    refine ⟨a, o, (hi n hn).trans h1, h2, ?_, h4⟩
    have hlo : m.lo S1.length = true := by
      rcases c.old n m e with q | q
      · obtain ⟨_, _, _, _, q3, _⟩ := rh.st n m q z
        cases q3 with
        | lst r =>
          have := r.lo
          rw [rh.len] at this
          exact los_mono c.len this
      · exact q
    cases h3 with
    | lst r => exact .lst (RepVs.down (W := W') (W' := ⟨W'.fr, W'.io.take S1.length⟩) rfl hi r hlo)
  · show (W'.io.take S1.length).length = _
    rw [List.length_take, rh'.len]
    omega
theorem rep_start {N : List Str} {ds : List D} {vs : List V} (r : RepVs k W ds vs) : RepS k W (gam N ds) (L2.start N vs) := by
  have hl := r.length
  refine ⟨by simp [gam, L2.start, hl], fun i d e => ?_⟩
  unfold gam at e
  by_cases hi : i < ds.length
  · rw [List.getElem?_append_left (by simpa using hi), List.getElem?_map] at e
    obtain ⟨d', hd, e2⟩ := Option.map_eq_some_iff.mp e
    cases e2
    obtain ⟨v, h1, h2⟩ := r.get hd
    refine ⟨v, ?_, h2⟩
    unfold L2.start
    rw [List.getElem?_append_left (by simp [hl, hi]), List.getElem?_map, h1]
    rfl
  · rw [List.getElem?_append_right (by simpa using hi), List.getElem?_replicate] at e
    split at e <;> cases e
end
/-! ### a def of the text -/
section
variable {P : Program} {w : World} {k : Kg} {base : Heap} {x qual : Str} {params : Arguments} {body : List Stmt} {scope : Scope} {dvs : List V} {kws : List (Str × V)} {f : Addr} {fd : FuncData} {N ps bl : List Str} {E : Ev} {j : Nat}
theorem good_of (F : Facts P w k base E bl j) (S : FnScope N ps scope) {cdv : Value} {A : Around} {outer : List Env} {s : Shared} {H : Hp} {Ex : XK} (hr : Room j (A.deeper (PyProof.Rows.envOfC qual scope s.heap.objs.size f cdv))) (hg : A.guards = some []) :
    Good (cxOf (L2.CX P w) P w k.K k.mg base N qual scope f cdv A outer s H Ex) E bl N scope scope j (fun cls d _ H' => Ex cls d H') where
  hN := rfl
  hs := rfl
  hk := S.kind
  nd := S.nd
  calm := rfl
  room := hr
  gd := hg
  bl := F.bl
  cst := F.cst
  fn := F.fn
  pass := passes_of rfl
  tk := takes_of rfl rfl rfl rfl
  loc := fun x hx => ⟨hx, .inl rfl⟩
/-- THE RULE for a def: its code stands for its text, and its run is what is told -/
theorem def_ok (F : Facts P w k base E bl j) (Fd : FunD k.K x qual params body scope dvs kws f fd) (S : FnScope N ps scope) {code : C} (hc : chkB bl N code scope scope body = true) {g : List D → Sto → R D}
    (hg : ∀ ds St, ds.length = ps.length → Meets (evalS E code (gam N ds) St) St (g ds St)) : FnG P w k.K k.mg base (j + 1) f fd ps (spF k ps.length g) := by
  obtain ⟨oc, od, dV, kV, doc, pm, an, cdv, ct, osl, rfl, lk, hcd, _, _⟩ := Fd.ex
  refine ⟨fun vs H Q E' ⟨W, St, ds, hl, r, _⟩ => by rw [r.length]; exact hl, fun A outer s H args us vs Q Ex hr hgd e0 hb r hsp => ?_⟩
  obtain ⟨W, St, ds, hl, rv, rh, fin⟩ := hsp
  have lv : vs.length = ps.length := by rw [rv.length]; exact hl
  have kin : k.K.In s.heap := e0.mod.kin.keeps fun b o q => (e0.bs b o q).1
  have kinds : ∀ y ∈ ps.zip us, scope.names.lookup y.1 = some .local ∨ (scope.names.lookup y.1 = some .cell ∧ ((cellsFrom (s.heap.objs.size + 1) scope.names []).lookup y.1).isSome = true) := by
    rintro ⟨n, v⟩ hy
    exact (S.par n (List.of_mem_zip hy).1).imp id fun q => ⟨q, PySem.W.cellsFrom_some _ _ _ (.inl q)⟩
  refine codeAny_call_function hr.depth (kin _ _ lk) rfl S.co S.gen rfl (PySem.W.codeRec_of kin hcd) (hb _ _ _ _ (wpAny_newFunctionEnv_cells S.kind kinds ?_))
  rintro env rfl s1 ic
  refine ⟨(e0.mod.nolimit.keeps fun b o q => (e0.bs b o q).1).keeps ic.toInCall.keep, codeAny_func ?_⟩
  have gd := good_of (qual := qual) (f := f) (cdv := cdv) (outer := outer) (H := H) (Ex := Ex) F S (hr.deeper (PyProof.Rows.envOfC qual scope s.heap.objs.size f cdv)) hgd
  have inv : Inv (cxOf (L2.CX P w) P w k.K k.mg base N qual scope f cdv A outer s H Ex) [] (L2.start N vs) H s1 := inv_start S hr.hd e0 lv r ic
  have m := hg ds St hl
  have run := ((snd code).b gd hc).run [] s1 (L2.start N vs) H { nx := fun _ H' => Q .non H', rt := Q } inv ⟨W, gam N ds, St, rep_start rv, rh, ?_⟩
  · refine wpAny_mono run (fun fl s' hs => ?_) fun e s' hs => hs
    match fl with
    | .ret u =>
      obtain ⟨v, σ', H', J, ru, q⟩ := hs
      exact ⟨v, H', J.os, J.bare, J.base, J.hok, ru, q⟩
    | .next =>
      obtain ⟨σ', H', J, q⟩ := hs
      exact ⟨.non, H', J.os, J.bare, J.base, J.hok, rfl, q⟩
    | .brk => obtain ⟨_, _, _, q⟩ := hs; exact q.elim
    | .cont => obtain ⟨_, _, _, q⟩ := hs; exact q.elim
  · cases hq : g ds St with
    | bad => rw [hq] at fin; exact fin.elim
    | ok d S1 =>
      rw [hq] at fin m
      obtain ⟨S', e, c⟩ := m
      rcases c with rfl | ⟨c, lo⟩
      · rcases e with e | ⟨rfl, G, e⟩
        · rw [e]
          intro W' H' v fr rh' rd
          exact fin _ _ fr rh' v rd
        · rw [e]
          intro W' H' σ' fr rh' _
          exact fin _ _ fr rh' _ .non
      · rcases e with e | ⟨rfl, G, e⟩
        · rw [e]
          intro W' H' v fr rh' rd
          obtain ⟨c1, c2, c3⟩ := cut_ok rh fr rh' c
          exact fin _ _ c1 c2 v (RepV.down (k := k) (W := W') (W' := ⟨W'.fr, W'.io.take S1.length⟩) rfl c3 rd lo)
        · rw [e]
          intro W' H' σ' fr rh' _
          obtain ⟨c1, c2, c3⟩ := cut_ok rh fr rh' c
          exact fin _ _ c1 c2 _ .non
    | exc ex S1 =>
      rw [hq] at fin m
      obtain ⟨G, S', e, c⟩ := m
      rw [e]
      intro W' H' σ' cls d fr rh' _ rx
      rcases c with rfl | ⟨c, lo⟩
      · exact fin _ _ cls d fr rh' rx
      · obtain ⟨c1, c2, c3⟩ := cut_ok rh fr rh' c
        refine fin _ _ cls d c1 c2 ?_
        cases rx with
        | plain h => exact .plain h
        | kept h h1 r => exact .kept h h1 (RepV.down (k := k) (W := W') (W' := ⟨W'.fr, W'.io.take S1.length⟩) rfl c3 r lo)
        | blt n => exact .blt n
end
end Itp

namespace Itp
open PySem PySem.Spec L2
/-! ### the defs one behind another -/
abbrev Tab := List (Str × (List D → Sto → R D))
def evOf (cst : Str → Option D) (l : Tab) : Ev := ⟨fun x => l.lookup x, cst⟩
theorem FnG.mono {P : Program} {w : World} {K : PySem.W.Frag} {mg : Str → Option Value} {base : Heap} {i j : Nat} {f : Addr} {fd : FuncData} {ps : List Str} {sp : Sp} (F : FnG P w K mg base i f fd ps sp) (h : i ≤ j) : FnG P w K mg base j f fd ps sp :=
  ⟨F.len, fun A outer s H args us vs Q E hr => F.run A outer s H args us vs Q E (hr.mono h)⟩
section
variable {P : Program} {w : World} {k : Kg} {base : Heap} {cst : Str → Option D} {l : Tab} {bl : List Str} {j : Nat} {x qual : Str} {params : Arguments} {body : List Stmt} {scope : Scope} {dvs : List V} {kws : List (Str × V)} {f : Addr} {fd : FuncData} {N ps : List Str}
theorem Facts.none (hb : ∀ x ∈ bl, k.mg x = Option.none) (hc : ∀ x d, cst x = some d → ∃ u v, k.mg x = some u ∧ RelV v u ∧ ∀ W, RepV k W d v) : Facts P w k base (evOf cst []) bl 0 :=
  ⟨hb, hc, fun x g h => by cases h⟩
theorem Facts.add (F : Facts P w k base (evOf cst l) bl j) (hm : k.mg x = some (.ref f)) (Fd : FunD k.K x qual params body scope dvs kws f fd) (hb : Binds k.K fd ps []) (S : FnScope N ps scope) {code : C} (hc : chkB bl N code scope scope body = true) {g : List D → Sto → R D}
    (ar : ∀ ds St, g ds St ≠ .bad → ds.length = ps.length) (hg : ∀ ds St, ds.length = ps.length → Meets (evalS (evOf cst l) code (gam N ds) St) St (g ds St)) : Facts P w k base (evOf cst ((x, g) :: l)) bl (j + 1) := by
  refine ⟨F.bl, F.cst, fun y h q => ?_⟩
  have q : ((x, g) :: l).lookup y = some h := q
  rw [List.lookup_cons] at q
  split at q
  · rename_i e
    cases q
    have e : y = x := eq_of_beq e
    subst e
    exact ⟨f, fd, ps, hm, Fd.kp, hb, ar, def_ok F Fd S hc hg⟩
  · obtain ⟨f', fd', ps', h1, h2, h3, h4, h5⟩ := F.fn y h q
    exact ⟨f', fd', ps', h1, h2, h3, h4, h5.mono (Nat.le_succ _)⟩
end
/-- a def as its code -/
structure Fn where
  name : Str
  ps : List Str
  N : List Str
  code : C
def Fn.run (f : Fn) (E : Ev) : List D → Sto → R D := fun ds S => if ds.length = f.ps.length then runOf (evalS E f.code (gam f.N ds) S) else .bad
/-- the last def stands first -/
def tabOf (cst : Str → Option D) : List Fn → Tab
  | [] => []
  | f :: fs => (f.name, f.run (evOf cst (tabOf cst fs))) :: tabOf cst fs
section
variable {P : Program} {w : World} {k : Kg} {base : Heap} {cst : Str → Option D} {l : List Fn} {bl : List Str} {j : Nat} {qual : Str} {params : Arguments} {body : List Stmt} {scope : Scope} {dvs : List V} {kws : List (Str × V)} {f : Addr} {fd : FuncData}
theorem Facts.fn_ (F : Facts P w k base (evOf cst (tabOf cst l)) bl j) (c : Fn) (hm : k.mg c.name = some (.ref f)) (Fd : FunD k.K c.name qual params body scope dvs kws f fd) (hb : Binds k.K fd c.ps []) (S : FnScope c.N c.ps scope) (hc : chkB bl c.N c.code scope scope body = true) :
    Facts P w k base (evOf cst (tabOf cst (c :: l))) bl (j + 1) := by
  refine F.add hm Fd hb S hc (g := c.run (evOf cst (tabOf cst l))) (fun ds St h => ?_) (fun ds St h => ?_)
  · unfold Fn.run at h
    split at h
    · assumption
    · exact absurd rfl h
  · unfold Fn.run
    rw [if_pos h]
    exact meets_runOf _ _
end
/-! ### the law's call -/
section
variable {P : Program} {w : World} {K : PySem.W.Frag} {mg mb : Str → Option Value} {j : Nat} {fa a : Addr} {fd : FuncData} {x : Str} {sp : Sp} {s : Shared} {vs : List Value} {ns : List Int}
theorem law_callG (kin : K.In s.heap) (gl : s.heap.Ns mainGlobals mg) (bn : s.heap.Ns builtinsNs mb) (bb : ∀ y : Str, y ≠ "__name__" → mb y = bootBuiltins y) (lim : s.heap.NoLimit) (hg : s.gens = #[])
    (ha : s.heap.get? a = some { cls := .type "list", data := .seq vs.toArray }) (hi : PyProof.Rows.IntsAre vs ns) (hl : ns.length ≤ sizeLine) (room : Room j callerA)
    (F : ∀ base : Heap, K.In base → base.Ns mainGlobals mg → FnG P w K mg base j fa fd [x] sp) (bind : ∀ (t : Shared) (u : Value), BindsTo t fd ⟨[u], []⟩ [(x, u)])
    (hsp : ∀ H : Hp, SqL K H a (ns.map V.int) → sp [.ref a] H (fun v _ => v = .bl true) fun _ _ _ => False) :
    codeAny (model P w) callerA (.call (.ref fa) ⟨[.ref a], []⟩) (fun r s' => r = .ok (.ret (.bool true)) ∧ OldK s.heap s'.heap ∧ s'.os = s.os ∧ PyProof.Rows.AllBare s'.gens) s := by
  have rv := vals_ints hi
  have go : ∀ H : Hp, (∀ b u, H b = some u → b = a ∧ u = .frz { cls := .type "list", data := .seq vs.toArray } (.lst (ns.map V.int)) ∧ K.lookup a = none) → SqL K H a (ns.map V.int) →
      codeAny (model P w) callerA (.call (.ref fa) ⟨[.ref a], []⟩) (fun r s' => r = .ok (.ret (.bool true)) ∧ OldK s.heap s'.heap ∧ s'.os = s.os ∧ PyProof.Rows.AllBare s'.gens) s := by
    intro H only sq
    have hok : HOk P w H s.heap := fun b u e => by
      obtain ⟨rfl, rfl, _⟩ := only b u e
      exact ⟨ha, by rw [List.length_map]; exact hl, vs, _, rv, ha⟩
    have up : ∀ {b : Addr} {m : Str → Option Value}, s.heap.Ns b m → (hidT s.heap H).Ns b m := by
      rintro b m ⟨o, es, ep, e, d, r⟩
      refine ⟨o, es, ep, hidT_get e ?_, d, r⟩
      cases q : H b with
      | none => rfl
      | some u =>
        obtain ⟨rfl, _, _⟩ := only b u q
        rw [ha] at e
        cases e
        cases d
    have kb : K.In (hidT s.heap H) := fun b o e => hidT_get (kin b o e) (by
      cases q : H b with
      | none => rfl
      | some u =>
        obtain ⟨rfl, _, z⟩ := only b u q
        rw [z] at e
        cases e)
    have e0 : Env0 P w K mg (hidT s.heap H) callerA [] s H :=
      ⟨rfl, ⟨kb, up gl, ⟨mb, up bn, bb⟩, by obtain ⟨mc, h1, h2⟩ := lim; exact ⟨mc, up h1, h2⟩⟩, fun b o e => of_hidT e, Nat.le_of_eq (hidT_size _ _), trivial, (fun b hb => absurd (show b ∈ ([] : List Addr) from hb) List.not_mem_nil), hok, PyProof.Rows.AllBare.of_eq hg⟩
    refine codeAny_mono ((F _ kb (up gl)).run callerA [] s H ⟨[.ref a], []⟩ [.ref a] [.ref a] _ _ room rfl e0 (bind s (.ref a)) (.cons rfl .nil) (hsp H sq)) ?_
    rintro (e | fl) s' h
    · obtain ⟨_, _, _, _, _, _, _, _, _, _, _, _, z⟩ := h
      exact z.elim
    · cases fl with
      | next => exact h.elim
      | brk => exact h.elim
      | cont => exact h.elim
      | ret u =>
        obtain ⟨v, H', os, bare, un, hok', r, q⟩ := h
        have q : v = .bl true := q
        subst q
        obtain rfl : u = Value.bool true := r
        refine ⟨rfl, OldK.of_keep fun b o e => ?_, os, bare⟩
        cases q : H b with
        | none => exact un.keep b o e q (fun z => absurd (show b ∈ ([] : List Addr) from z) List.not_mem_nil) List.not_mem_nil
        | some u =>
          obtain ⟨rfl, rfl, _⟩ := only b u q
          obtain ⟨e1, _⟩ := hok' b _ (un.frzs b _ _ q)
          rw [ha] at e
          cases e
          exact e1
  cases hk : K.lookup a with
  | some o =>
    have e := kin a o hk
    rw [ha] at e
    cases e
    refine go (fun _ => none) (fun b u z => nomatch z) (.inr ⟨_, vs.toArray, _, hk, rfl, rfl, rfl, ?_, by simpa using rv⟩)
    rw [List.size_toArray, hi.length]
    exact hl
  | none =>
    refine go (upd (fun _ => none) a (.frz { cls := .type "list", data := .seq vs.toArray } (.lst (ns.map V.int)))) (fun b u z => ?_) (.inl (.inr ⟨_, upd_same⟩))
    by_cases hb : b = a
    · subst hb
      rw [upd_same] at z
      exact ⟨rfl, (Option.some.inj z).symm, hk⟩
    · rw [upd_ne hb] at z
      cases z
end
/-- the told law is true of every script -/
def TrueLaw (g : List D → Sto → R D) (n : Nat) : Prop := ∀ ns : List Int, ns.length ≤ n → ∃ S, g [.scr ns] [] = .ok (.bl true) S
theorem walk_ofG {l : PySem.W.OpenLaw} {n j : Nat} {q : Program} {loose : List Str} {XP : (Str → Option Value) → Heap → Prop} {YP : World → Heap → Prop} {d : DefRec} {x : Str}
    (hn : l.most = some n) (hn2 : n ≤ sizeLine) (hdf : d.params.defaults = []) (hr : Room j callerA)
    (F : ∀ (w : World) (mg : Str → Option Value) (fa : Addr) (h : Heap), YP w h → h.Ns mainGlobals mg → mg d.name = some (.ref fa) →
      ∃ (K : PySem.W.Frag) (fd : FuncData) (g : List D → Sto → R D), K.In h ∧ (∀ (s : Shared) (u : Value), BindsTo s fd ⟨[u], []⟩ [(x, u)]) ∧ TrueLaw g n ∧
        ∀ base : Heap, K.In base → base.Ns mainGlobals mg → FnG l.prog w K mg base j fa fd [x] (spF ⟨K, mg⟩ 1 g)) :
    PySem.W.WalkO q loose XP YP l.row.toRowW d [] (fun f vs => PySem.call f vs) := by
  refine Att.attach_call hn hdf ?_
  intro w s₀ s₁ mg mb fa o pm cd doc a vs ns G Y ho hd hcd hmg hobj hints hlen hg
  obtain ⟨K, fd, g, KX, hb, ht, hF⟩ := F w mg fa _ Y G.T.g hmg
  refine law_callG KX G.T.g G.T.b G.T.builtins G.T.nolimit hg hobj hints (Nat.le_trans hlen hn2) hr hF hb fun H hS => ?_
  obtain ⟨S, e⟩ := ht ns hlen
  refine ⟨⟨H, []⟩, [], [.scr ns], rfl, .cons (.scr hS) .nil, ⟨fun _ _ z => z, fun n m z => (nomatch z), rfl, .nil, fun a z => (nomatch z)⟩, ?_⟩
  rw [e]
  intro W' H' _ _ v rv
  cases rv
  rfl
end Itp

namespace Itp
open PySem PySem.Spec L2
/-! ### a law's head, generic -/
def csts (l : List (Str × Key)) : Str → Option D := fun x => (l.lookup x).map ofKey
def faOf (p : Str × Key) : He.Fa := match p.2 with
  | .inl i => .int p.1 i
  | .inr z => .str p.1 z
section
variable {K : PySem.W.Frag} {h : Heap} {mg : Str → Option Value}
theorem csts_ok (X : K.In h) (G : h.Ns mainGlobals mg) : ∀ (l : List (Str × Key)), (∀ p ∈ l, (faOf p).ok K = true) → ∀ x d, csts l x = some d → ∃ u v, mg x = some u ∧ RelV v u ∧ ∀ W, RepV ⟨K, mg⟩ W d v
  | [], _, x, d, e => by cases e
  | (y, q) :: l, c, x, d, e => by
    by_cases z : x = y
    · subst z
      have e : ofKey q = d := by
        have e : (((x, q) :: l).lookup x).map ofKey = some d := e
        rw [List.lookup_cons, beq_self_eq_true] at e
        exact Option.some.inj e
      subst e
      have c1 := c _ (List.mem_cons_self ..)
      cases q with
      | inl i =>
        obtain ⟨t, ht⟩ := He.int_ok X G c1
        exact ⟨_, .int i, ht, ⟨t, rfl⟩, fun _ => .int i⟩
      | inr i =>
        obtain ⟨t, ht⟩ := He.str_ok X G c1
        exact ⟨_, .str i, ht, ⟨t, rfl⟩, fun _ => .str i⟩
    · refine csts_ok X G l (fun p hp => c p (List.mem_cons_of_mem _ hp)) x d ?_
      have e : (((y, q) :: l).lookup x).map ofKey = some d := e
      rw [List.lookup_cons, beq_eq_false_iff_ne.mpr z] at e
      exact e
end
/-- a def's code fits its text -/
structure DOk (bl : List Str) (c : Fn) (d : He.DefD) : Prop where
  at_ : d.at_ = (c.name, none)
  nm : d.name = c.name
  dfl : d.dfl = []
  sc : FnScope c.N c.ps d.scope
  ck : chkB bl c.N c.code d.scope d.scope d.body = true
  bn : ∀ {K : PySem.W.Frag} {kws : List (Str × V)} {f : Addr} {fd : FuncData}, FunD K c.name d.qual d.params d.body d.scope [] kws f fd → Binds K fd c.ps []
abbrev Defs := List (Fn × He.DefD)
def AllOk (bl : List Str) : Defs → Prop
  | [] => True
  | p :: l => DOk bl p.1 p.2 ∧ AllOk bl l
def Defs.fns (l : Defs) : List Fn := l.map (·.1)
def Defs.ds (l : Defs) : List He.DefD := l.map (·.2)
def faL (l : Defs) (bl : List Str) (cs : List (Str × Key)) : List He.Fa := l.map (fun p => .glo p.1.name) ++ bl.map .free ++ cs.map faOf
section
variable {P : Program} {w : World} {K : PySem.W.Frag} {h base : Heap} {mg : Str → Option Value} {bl : List Str} {cs : List (Str × Key)}
theorem fact_at {fa : List He.Fa} {fn : List He.DefD} (c : He.SaysD fa fn K) {f : He.Fa} (hf : f ∈ fa) : f.ok K = true := by
  have e := congrArg Prod.fst c
  have e : ((fa.all fun f => f.ok K) && fn.all fun d => d.ok K) = true := e
  exact List.all_eq_true.mp (Bool.and_eq_true_iff.mp e).1 f hf
theorem def_at {fa : List He.Fa} {fn : List He.DefD} (c : He.SaysD fa fn K) {d : He.DefD} (hd : d ∈ fn) : ∃ fd, FunD K d.name d.qual d.params d.body d.scope (d.dvs K) (d.kws K) (He.fAd K d.at_) fd := by
  have e := congrArg Prod.fst c
  have e : ((fa.all fun f => f.ok K) && fn.all fun d => d.ok K) = true := e
  have e2 : fn.map (fun d => He.fnW K d.at_) = fn.map He.DefD.val := congrArg Prod.snd c
  exact He.DefD.funD (List.map_inj_left.mp e2 d hd) (List.all_eq_true.mp (Bool.and_eq_true_iff.mp e).2 d hd)
theorem facts_all {fa : List He.Fa} {fn : List He.DefD} (X : K.In h) (G : h.Ns mainGlobals mg) (c : He.SaysD fa fn K) (hbl : ∀ x ∈ bl, .free x ∈ fa) (hcs : ∀ p ∈ cs, faOf p ∈ fa) : ∀ (l : Defs), (∀ p ∈ l, p.2 ∈ fn) → (∀ p ∈ l, .glo p.1.name ∈ fa) → AllOk bl l →
    Facts P w ⟨K, mg⟩ base (evOf (csts cs) (tabOf (csts cs) l.fns)) bl l.length
  | [], _, _, _ => Facts.none (fun x hx => He.free_ok X G (fact_at c (hbl x hx))) (csts_ok X G cs fun p hp => fact_at c (hcs p hp))
  | (q, d) :: l, h1, h2, ⟨a, b⟩ => by
    have F := facts_all X G c hbl hcs l (fun p hp => h1 p (List.mem_cons_of_mem _ hp)) (fun p hp => h2 p (List.mem_cons_of_mem _ hp)) b
    obtain ⟨fd, Fd⟩ := def_at c (h1 _ (List.mem_cons_self ..))
    have hm := He.glo_ok X G (fact_at c (h2 _ (List.mem_cons_self ..)))
    have a1 : d.at_ = (q.name, none) := a.at_
    have a2 : d.name = q.name := a.nm
    have a3 : d.dfl = [] := a.dfl
    rw [a1, a2, show d.dvs K = [] by unfold He.DefD.dvs; rw [a3]; rfl] at Fd
    exact F.fn_ q hm Fd (a.bn Fd) a.sc a.ck
end
/-- the law's def, as the end of a law wants it -/
theorem law_of {P : Program} {w : World} {K : PySem.W.Frag} {h : Heap} {mg : Str → Option Value} {bl : List Str} {cs : List (Str × Key)} {l : Defs} {q : Fn} {d : He.DefD} {x : Str} {fad : Addr} (X : K.In h) (G : h.Ns mainGlobals mg) (c : He.SaysD (faL ((q, d) :: l) bl cs) (Defs.ds ((q, d) :: l)) K) (ok : AllOk bl ((q, d) :: l)) (hq : q.ps = [x]) (hm : mg q.name = some (.ref fad))
    (bA : ∀ {K : PySem.W.Frag} {kws : List (Str × V)} {f : Addr} {fd : FuncData}, FunD K q.name d.qual d.params d.body d.scope [] kws f fd → ∀ (s : Shared) (u : Value), BindsTo s fd ⟨[u], []⟩ [(x, u)]) :
    ∃ fd : FuncData, (∀ (s : Shared) (u : Value), BindsTo s fd ⟨[u], []⟩ [(x, u)]) ∧ ∀ base : Heap, K.In base → base.Ns mainGlobals mg → FnG P w K mg base (l.length + 1) fad fd [x] (spF ⟨K, mg⟩ 1 (q.run (evOf (csts cs) (tabOf (csts cs) l.fns)))) := by
  have hbl : ∀ x ∈ bl, He.Fa.free x ∈ faL ((q, d) :: l) bl cs := fun x hx => List.mem_append_left _ (List.mem_append_right _ (List.mem_map_of_mem hx))
  have hcs : ∀ p ∈ cs, faOf p ∈ faL ((q, d) :: l) bl cs := fun p hp => List.mem_append_right _ (List.mem_map_of_mem hp)
  have h1 : ∀ p ∈ ((q, d) :: l : Defs), p.2 ∈ Defs.ds ((q, d) :: l) := fun p hp => List.mem_map_of_mem hp
  have h2 : ∀ p ∈ ((q, d) :: l : Defs), He.Fa.glo p.1.name ∈ faL ((q, d) :: l) bl cs := fun p hp => List.mem_append_left _ (List.mem_append_left _ (List.mem_map_of_mem (f := fun p : Fn × He.DefD => He.Fa.glo p.1.name) hp))
  obtain ⟨fd, Fd⟩ := def_at c (h1 _ (List.mem_cons_self ..))
  have a := ok.1
  have a1 : d.at_ = (q.name, none) := a.at_
  have a2 : d.name = q.name := a.nm
  have a3 : d.dfl = [] := a.dfl
  rw [a1, a2, show d.dvs K = [] by unfold He.DefD.dvs; rw [a3]; rfl] at Fd
  have hm2 := He.glo_ok X G (fact_at c (h2 _ (List.mem_cons_self ..)))
  refine ⟨fd, bA Fd, fun base kb gb => ?_⟩
  have F := facts_all (P := P) (w := w) (base := base) X G c hbl hcs l (fun p hp => h1 p (List.mem_cons_of_mem _ hp)) (fun p hp => h2 p (List.mem_cons_of_mem _ hp)) ok.2
  have e : fad = He.fAd K (q.name, none) := by
    have := hm.symm.trans hm2
    cases this
    rfl
  subst e
  have key := def_ok F Fd a.sc a.ck (g := q.run (evOf (csts cs) (tabOf (csts cs) l.fns))) (fun ds St hl => by
    unfold Fn.run
    rw [if_pos hl]
    exact meets_runOf _ _)
  rw [hq] at key
  exact key
end Itp

namespace Itp
open PySem PySem.Spec L2
/-! ### a run's end, by what is to hold there -/
abbrev XP := Exn → Sto → Prop
def R.post {α : Type} (r : R α) (Q : α → Sto → Prop) (X : XP) : Prop := match r with
  | .ok a S => Q a S
  | .exc e S => X e S
  | .bad => False
def noX : XP := fun _ _ => False
section
variable {α β : Type} {r : R α} {Q Q' : α → Sto → Prop} {X X' : XP} {a : α} {S : Sto}
theorem post_ok : (R.ok a S).post Q X = Q a S := rfl
theorem post_exc {e : Exn} : (R.exc e S : R α).post Q X = X e S := rfl
theorem post_bad : (R.bad : R α).post Q X = False := rfl
theorem post_bind {f : α → Sto → R β} {Q : β → Sto → Prop} : (r.bind f).post Q X = r.post (fun a S => (f a S).post Q X) X := by
  cases r <;> rfl
theorem post_if {c : Prop} [Decidable c] : (if c then r else .bad).post Q X = (c ∧ r.post Q X) := by
  by_cases h : c <;> simp [h, R.post]
theorem R.post.mono (h : r.post Q X) (q : ∀ a S, Q a S → Q' a S) (x : ∀ e S, X e S → X' e S) : r.post Q' X' := by
  cases r with
  | ok a S => exact q _ _ h
  | exc e S => exact x _ _ h
  | bad => exact h
theorem R.post.to (h : r.post Q noX) (q : ∀ a S, Q a S → Q' a S) : r.post Q' X' := h.mono q fun _ _ z => z.elim
theorem R.post.eq (h : r.post Q noX) : ∃ a S, r = .ok a S ∧ Q a S := by
  cases r with
  | ok a S => exact ⟨a, S, rfl, h⟩
  | exc e S => exact h.elim
  | bad => exact h.elim
end
structure Pk where
  nx : Gam → Sto → Prop
  rt : D → Sto → Prop := fun _ _ => False
  bk : Gam → Sto → Prop := fun _ _ => False
  ct : Gam → Sto → Prop := fun _ _ => False
  ex : Exn → Gam → Sto → Prop := fun _ _ _ => False
def RS.post (r : RS) (K : Pk) : Prop := match r with
  | .nx G S => K.nx G S
  | .rt d S => K.rt d S
  | .bk G S => K.bk G S
  | .ct G S => K.ct G S
  | .exc e G S => K.ex e G S
  | .bad => False
section
variable {r : RS} {K K' : Pk} {G : Gam} {S : Sto}
theorem RS.post.mono (h : r.post K) (h1 : ∀ G S, K.nx G S → K'.nx G S) (h2 : ∀ d S, K.rt d S → K'.rt d S) (h3 : ∀ G S, K.bk G S → K'.bk G S) (h4 : ∀ G S, K.ct G S → K'.ct G S) (h5 : ∀ e G S, K.ex e G S → K'.ex e G S) : r.post K' := by
  cases r with
  | nx => exact h1 _ _ h
  | rt => exact h2 _ _ h
  | bk => exact h3 _ _ h
  | ct => exact h4 _ _ h
  | exc => exact h5 _ _ _ h
  | bad => exact h
/-- only a falling through -/
theorem RS.post.to {I : Gam → Sto → Prop} (h : r.post { nx := I }) (h1 : ∀ G S, I G S → K'.nx G S) : r.post K' :=
  h.mono h1 (fun _ _ z => z.elim) (fun _ _ z => z.elim) (fun _ _ z => z.elim) (fun _ _ _ z => z.elim)
theorem ps_ofR {α : Type} {q : R α} {f : α → Sto → RS} : (RS.ofR G q f).post K = q.post (fun a S => (f a S).post K) (fun e S => K.ex e G S) := by
  cases q <;> rfl
theorem ps_then {f : Gam → Sto → RS} : (r.then_ f).post K = r.post { K with nx := fun G S => (f G S).post K } := by
  cases r <;> rfl
theorem ps_nx : (RS.nx G S).post K = K.nx G S := rfl
theorem ps_rt {d : D} : (RS.rt d S).post K = K.rt d S := rfl
theorem ps_bad : RS.bad.post K = False := rfl
theorem p_runOf {Q : D → Sto → Prop} {X : XP} : (runOf r).post Q X = r.post { nx := fun _ S => Q .non S, rt := Q, ex := fun e _ S => X e S } := by
  cases r <;> rfl
theorem p_run {f : Fn} {E : Ev} {ds : List D} {Q : D → Sto → Prop} {X : XP} (h : ds.length = f.ps.length) : (f.run E ds S).post Q X = (evalS E f.code (gam f.N ds) S).post { nx := fun _ S => Q .non S, rt := Q, ex := fun e _ S => X e S } := by
  unfold Fn.run
  rw [if_pos h, p_runOf]
end
def Ev.callF (E : Ev) (f : Str) (ds : List D) (S : Sto) : R D := match E.fn f with
  | some g => g ds S
  | none => .bad
def overD : D → Option (List D)
  | .lst xs => some xs
  | .tup xs => some xs
  | _ => none
def strD : Str → List D := fun x => x.cps.toList.map fun c => .str ⟨#[c]⟩
section
variable {E : Ev} {G : Gam} {S : Sto} {X : XP} {Q : D → Sto → Prop} {QB : Bool → Sto → Prop} {QL : List D → Sto → Prop} {K : Pk} {a b c t e as : C} {i j : Nat}
theorem p_var : (evalE E (.var i) G S).post Q X = ∃ d, G[i]? = some (some d) ∧ Q d S := by
  show (match G[i]? with
    | some (some d) => R.ok d S
    | _ => R.bad).post Q X = _
  split
  · rename_i d h
    rw [h]
    simp [post_ok]
  · rename_i h
    simp only [post_bad, eq_iff_iff, false_iff]
    rintro ⟨d, h1, _⟩
    exact h d h1
theorem p_kint {i : Int} : (evalE E (.kint i) G S).post Q X = Q (.int i) S := rfl
theorem p_kstr {x : Str} : (evalE E (.kstr x) G S).post Q X = Q (.str x) S := rfl
theorem p_kbl {x : Bool} : (evalE E (.kbl x) G S).post Q X = Q (.bl x) S := rfl
theorem p_knon : (evalE E .knon G S).post Q X = Q .non S := rfl
theorem p_glo {x : Str} : (evalE E (.glo x) G S).post Q X = ∃ d, E.cst x = some d ∧ Q d S := by
  show (match E.cst x with
    | some d => R.ok d S
    | none => R.bad).post Q X = _
  cases E.cst x <;> simp [R.post]
theorem p_ty {x : Tn} : (evalE E (.ty x) G S).post Q X = Q (.ty x) S := rfl
theorem p_bin {m : Bool} {o : Operator} : (evalE E (.bin m o a b) G S).post Q X = (evalE E a G S).post (fun x S1 => (evalE E b G S1).post (fun y S2 => (binop m o x y S2).post Q X) X) X := by
  rw [show evalE E (.bin m o a b) G S = (evalE E a G S).bind fun x S1 => (evalE E b G S1).bind fun y S2 => binop m o x y S2 from rfl]
  simp only [post_bind]
theorem p_un {o : UnaryOp} : (evalE E (.un o a) G S).post Q X = (evalE E a G S).post (fun x S1 => (unop o x S1).post Q X) X := by
  rw [show evalE E (.un o a) G S = (evalE E a G S).bind fun x S1 => unop o x S1 from rfl]
  simp only [post_bind]
theorem p_cmpop {o : CmpOp} {x y : D} : (cmpop o x y S).post Q X = ∃ c, cmpB o x y S = some c ∧ Q (.bl c) S := by
  unfold cmpop
  cases cmpB o x y S <;> simp [R.post]
theorem p_cmp {o : CmpOp} : (evalE E (.cmp o a b) G S).post Q X = (evalE E a G S).post (fun x S1 => (evalE E b G S1).post (fun y S2 => ∃ c, cmpB o x y S2 = some c ∧ Q (.bl c) S2) X) X := by
  rw [show evalE E (.cmp o a b) G S = (evalE E a G S).bind fun x S1 => (evalE E b G S1).bind fun y S2 => cmpop o x y S2 from rfl]
  simp only [post_bind, p_cmpop]
theorem p_mB {α : Type} {o : Option Bool} {p q : R α} {Q : α → Sto → Prop} : (match o with
    | some true => p
    | some false => q
    | none => R.bad).post Q X = ∃ c, o = some c ∧ if c = true then p.post Q X else q.post Q X := by
  match o with
  | some true => simp
  | some false => simp
  | none => simp [R.post]
theorem p_chain {o o' : CmpOp} : (evalE E (.chain o o' a b c) G S).post Q X = (evalE E a G S).post (fun x S1 => (evalE E b G S1).post (fun y S2 => ∃ d, cmpB o x y S2 = some d ∧ if d = true then (evalE E c G S2).post (fun z S3 => ∃ c, cmpB o' y z S3 = some c ∧ Q (.bl c) S3) X else Q (.bl false) S2) X) X := by
  rw [show evalE E (.chain o o' a b c) G S = (evalE E a G S).bind fun x S1 => (evalE E b G S1).bind fun y S2 => (match cmpB o x y S2 with
    | some true => (evalE E c G S2).bind fun z S3 => cmpop o' y z S3
    | some false => .ok (.bl false) S2
    | none => .bad) from rfl]
  simp only [post_bind, p_mB, p_cmpop, post_ok]
theorem p_and : (evalE E (.and a b) G S).post Q X = (evalE E a G S).post (fun x S1 => ∃ d, truth S1 x = some d ∧ if d = true then (evalE E b G S1).post Q X else Q x S1) X := by
  rw [show evalE E (.and a b) G S = (evalE E a G S).bind fun x S1 => (match truth S1 x with
    | some true => evalE E b G S1
    | some false => .ok x S1
    | none => .bad) from rfl]
  simp only [post_bind, p_mB, post_ok]
theorem p_or : (evalE E (.or a b) G S).post Q X = (evalE E a G S).post (fun x S1 => ∃ d, truth S1 x = some d ∧ if d = true then Q x S1 else (evalE E b G S1).post Q X) X := by
  rw [show evalE E (.or a b) G S = (evalE E a G S).bind fun x S1 => (match truth S1 x with
    | some true => .ok x S1
    | some false => evalE E b G S1
    | none => .bad) from rfl]
  simp only [post_bind, p_mB, post_ok]
theorem p_one : (evalE E (.one a) G S).post Q X = (evalE E a G S).post Q X := rfl
theorem p_not : (evalE E (.not a) G S).post Q X = (evalE E a G S).post (fun x S1 => ∃ d, truth S1 x = some d ∧ Q (.bl (!d)) S1) X := by
  rw [show evalE E (.not a) G S = (evalE E a G S).bind fun x S1 => (match truth S1 x with
    | some c => .ok (.bl (!c)) S1
    | none => .bad) from rfl]
  simp only [post_bind]
  congr 1
  funext x S1
  cases truth S1 x <;> simp [R.post]
theorem p_ife : (evalE E (.ife t a b) G S).post Q X = (evalT E t G S).post (fun d S1 => if d = true then (evalE E a G S1).post Q X else (evalE E b G S1).post Q X) X := by
  rw [show evalE E (.ife t a b) G S = (evalT E t G S).bind fun c S1 => if c = true then evalE E a G S1 else evalE E b G S1 from rfl]
  simp only [post_bind]
  congr 1
  funext x S1
  cases x <;> simp
theorem p_tup : (evalE E (.tup as) G S).post Q X = (evalA E as G S).post (fun ds S1 => ds.length ≤ lim ∧ Q (.tup ds) S1) X := by
  rw [show evalE E (.tup as) G S = (evalA E as G S).bind fun ds S1 => if ds.length ≤ lim then .ok (.tup ds) S1 else .bad from rfl]
  simp only [post_bind, post_if, post_ok]
theorem p_lst {m : Bool} : (evalE E (.lst m as) G S).post Q X = (evalA E as G S).post (fun ds S1 => ds.length ≤ lim ∧ (mk m ds S1).post Q X) X := by
  rw [show evalE E (.lst m as) G S = (evalA E as G S).bind fun ds S1 => if ds.length ≤ lim then mk m ds S1 else .bad from rfl]
  simp only [post_bind, post_if]
theorem p_dic : (evalE E (.dic as) G S).post Q X = (evalP E as G S).post (fun p S1 => ((p.1.length ≤ 15 ∧ p.1.length = p.2.length ∧ p.1.all (fun d => (keyD d).isSome) = true) ∧ nodupK p.1 = true) ∧ Q (.dct p.1 p.2) S1) X := by
  rw [show evalE E (.dic as) G S = (evalP E as G S).bind fun p S1 => if (p.1.length ≤ 15 ∧ p.1.length = p.2.length ∧ p.1.all (fun d => (keyD d).isSome) = true) ∧ nodupK p.1 = true then .ok (.dct p.1 p.2) S1 else .bad from rfl]
  simp only [post_bind, post_if, post_ok]
theorem p_mkF {xs : List D} : (mk false xs S).post Q X = Q (.lst xs) S := rfl
theorem p_mkT {xs : List D} : (mk true xs S).post Q X = Q (.ref S.length) (S ++ [.lst xs]) := rfl
theorem p_false {α : Type} {r : R α} (h : r.post (fun _ _ => False) X) : r.post (fun _ _ => False) X := h
theorem p_call {f : Str} {g : List D → Sto → R D} (h : E.fn f = some g) : (evalE E (.call f as) G S).post Q X = (evalA E as G S).post (fun ds S1 => (g ds S1).post Q X) X := by
  rw [show evalE E (.call f as) G S = (match E.fn f with
    | some g => (evalA E as G S).bind fun ds S1 => g ds S1
    | none => .bad) from rfl, h]
  simp only [post_bind]
theorem p_bi {m : Bool} {f : Bi} : (evalE E (.bi m f as) G S).post Q X = (evalA E as G S).post (fun ds S1 => (biF m f ds S1).post Q X) X := by
  rw [show evalE E (.bi m f as) G S = (evalA E as G S).bind fun ds S1 => biF m f ds S1 from rfl]
  simp only [post_bind]
theorem p_me {f : Me} : (evalE E (.me f a as) G S).post Q X = (evalE E a G S).post (fun x S1 => isT S1 f.T x = true ∧ (evalA E as G S1).post (fun ds S2 => (meF f x ds S2).post Q X) X) X := by
  rw [show evalE E (.me f a as) G S = (evalE E a G S).bind fun x S1 => if isT S1 f.T x = true then (evalA E as G S1).bind fun ds S2 => meF f x ds S2 else .bad from rfl]
  simp only [post_bind, post_if]
theorem p_ix : (evalE E (.ix a b) G S).post Q X = (evalE E a G S).post (fun x S1 => (evalE E b G S1).post (fun y S2 => (ixF x y S2).post Q X) X) X := by
  rw [show evalE E (.ix a b) G S = (evalE E a G S).bind fun x S1 => (evalE E b G S1).bind fun y S2 => ixF x y S2 from rfl]
  simp only [post_bind]
theorem p_nil : (evalA E .nil G S).post QL X = QL [] S := rfl
theorem p_cons : (evalA E (.cons a as) G S).post QL X = (evalE E a G S).post (fun x S1 => (evalA E as G S1).post (fun xs S2 => QL (x :: xs) S2) X) X := by
  rw [show evalA E (.cons a as) G S = (evalE E a G S).bind fun x S1 => (evalA E as G S1).bind fun xs S2 => .ok (x :: xs) S2 from rfl]
  simp only [post_bind, post_ok]
theorem p_pnil {Q : List D × List D → Sto → Prop} : (evalP E .nil G S).post Q X = Q ([], []) S := rfl
theorem p_pcons {Q : List D × List D → Sto → Prop} : (evalP E (.pcons a b c) G S).post Q X = (evalE E a G S).post (fun x S1 => (evalE E b G S1).post (fun y S2 => (evalP E c G S2).post (fun p S3 => Q (x :: p.1, y :: p.2) S3) X) X) X := by
  rw [show evalP E (.pcons a b c) G S = (evalE E a G S).bind fun x S1 => (evalE E b G S1).bind fun y S2 => (evalP E c G S2).bind fun p S3 => .ok (x :: p.1, y :: p.2) S3 from rfl]
  simp only [post_bind, post_ok]
/-! tests -/
theorem p_tst {o : Option Bool} : (tstB o S).post QB X = ∃ c, o = some c ∧ QB c S := by
  unfold tstB
  cases o <;> simp [R.post]
theorem t_nil : (evalT E .nil G S).post QB X = QB true S := rfl
theorem t_not : (evalT E (.not a) G S).post QB X = (evalT E a G S).post (fun c S1 => QB (!c) S1) X := by
  rw [show evalT E (.not a) G S = (evalT E a G S).bind fun c S1 => .ok (!c) S1 from rfl]
  simp only [post_bind, post_ok]
theorem t_and : (evalT E (.and a b) G S).post QB X = (evalT E a G S).post (fun c S1 => if c = true then (evalT E b G S1).post QB X else QB false S1) X := by
  rw [show evalT E (.and a b) G S = (evalT E a G S).bind fun c S1 => if c = true then evalT E b G S1 else .ok false S1 from rfl]
  simp only [post_bind]
  congr 1
  funext x S1
  cases x <;> simp [R.post]
theorem t_or : (evalT E (.or a b) G S).post QB X = (evalT E a G S).post (fun c S1 => if c = true then QB true S1 else (evalT E b G S1).post QB X) X := by
  rw [show evalT E (.or a b) G S = (evalT E a G S).bind fun c S1 => if c = true then .ok true S1 else evalT E b G S1 from rfl]
  simp only [post_bind]
  congr 1
  funext x S1
  cases x <;> simp [R.post]
theorem t_one : (evalT E (.one a) G S).post QB X = (evalT E a G S).post QB X := rfl
theorem t_tv : (evalT E (.tv a) G S).post QB X = (evalE E a G S).post (fun x S1 => ∃ c, truth S1 x = some c ∧ QB c S1) X := by
  rw [show evalT E (.tv a) G S = (evalE E a G S).bind fun x S1 => tstB (truth S1 x) S1 from rfl]
  simp only [post_bind, p_tst]
theorem t_cmp {o : CmpOp} : (evalT E (.cmp o a b) G S).post QB X = (evalE E a G S).post (fun x S1 => (evalE E b G S1).post (fun y S2 => ∃ c, cmpB o x y S2 = some c ∧ QB c S2) X) X := by
  rw [show evalT E (.cmp o a b) G S = (evalE E a G S).bind fun x S1 => (evalE E b G S1).bind fun y S2 => tstB (cmpB o x y S2) S2 from rfl]
  simp only [post_bind, p_tst]
theorem t_chain {o o' : CmpOp} : (evalT E (.chain o o' a b c) G S).post QB X = (evalE E a G S).post (fun x S1 => (evalE E b G S1).post (fun y S2 => ∃ d, cmpB o x y S2 = some d ∧ if d = true then (evalE E c G S2).post (fun z S3 => ∃ c, cmpB o' y z S3 = some c ∧ QB c S3) X else QB false S2) X) X := by
  rw [show evalT E (.chain o o' a b c) G S = (evalE E a G S).bind fun x S1 => (evalE E b G S1).bind fun y S2 => (match cmpB o x y S2 with
    | some true => (evalE E c G S2).bind fun z S3 => tstB (cmpB o' y z S3) S3
    | some false => .ok false S2
    | none => .bad) from rfl]
  simp only [post_bind, p_mB, p_tst, post_ok]
/-! walks -/
theorem i_range1 : (evalI E (.range1 a) G S).post QL X = (evalE E a G S).post (fun x S1 => ∃ j : Int, x = .int j ∧ (-(2 ^ 62) ≤ j ∧ j < 2 ^ 62) ∧ QL (rangeD 0 j.toNat) S1) X := by
  rw [show evalI E (.range1 a) G S = (evalE E a G S).bind fun x S1 => (match x with
    | .int j => if -(2 ^ 62) ≤ j ∧ j < 2 ^ 62 then .ok (rangeD 0 j.toNat) S1 else .bad
    | _ => .bad) from rfl]
  simp only [post_bind]
  congr 1
  funext x S1
  cases x <;> simp [post_if, post_ok, post_bad]
theorem i_range2 : (evalI E (.range2 a b) G S).post QL X = (evalE E a G S).post (fun x S1 => (evalE E b G S1).post (fun y S2 => ∃ i j : Int, (x = .int i ∧ y = .int j) ∧ (-(2 ^ 62) ≤ i ∧ i < 2 ^ 62 ∧ -(2 ^ 62) ≤ j ∧ j < 2 ^ 62) ∧ QL (rangeD i (j - i).toNat) S2) X) X := by
  rw [show evalI E (.range2 a b) G S = (evalE E a G S).bind fun x S1 => (evalE E b G S1).bind fun y S2 => (match x, y with
    | .int i, .int j => if -(2 ^ 62) ≤ i ∧ i < 2 ^ 62 ∧ -(2 ^ 62) ≤ j ∧ j < 2 ^ 62 then .ok (rangeD i (j - i).toNat) S2 else .bad
    | _, _ => .bad) from rfl]
  simp only [post_bind]
  congr 1
  funext x S1
  congr 1
  funext y S2
  cases x <;> cases y <;> simp [post_if, post_ok, post_bad, and_assoc]
theorem i_over : (evalI E (.over a) G S).post QL X = (evalE E a G S).post (fun x S1 => ∃ xs, overD x = some xs ∧ QL xs S1) X := by
  rw [show evalI E (.over a) G S = (evalE E a G S).bind fun x S1 => (match x with
    | .lst xs => .ok xs S1
    | .tup xs => .ok xs S1
    | _ => .bad) from rfl]
  simp only [post_bind]
  congr 1
  funext x S1
  cases x <;> simp [overD, R.post]
theorem i_overS : (evalI E (.overS a) G S).post QL X = (evalE E a G S).post (fun x S1 => ∃ z, x = .str z ∧ QL (strD z) S1) X := by
  rw [show evalI E (.overS a) G S = (evalE E a G S).bind fun x S1 => (match x with
    | .str x => .ok (x.cps.toList.map fun c => .str ⟨#[c]⟩) S1
    | _ => .bad) from rfl]
  simp only [post_bind]
  congr 1
  funext x S1
  cases x <;> simp [strD, R.post]
/-! comprehensions -/
def turnOf (E : Ev) (G : Gam) (own : List (Str × Nat)) (tg ts e : C) (d : D) (S : Sto) : R (Option D) := match asgG tg d (wipeG G (own.map (·.2))) with
  | none => .bad
  | some G1 => (evalT E ts G1 S).bind fun c S1 => if c = true then (evalE E e G1 S1).bind fun y S2 => .ok (some y) S2 else .ok none S1
theorem p_lc {m : Bool} {own : List (Str × Nat)} {tg it ts : C} : (evalE E (.lc m own tg it ts e) G S).post Q X = (evalI E it G S).post (fun ds S1 => (lcLoop (turnOf E G own tg ts e) ds [] S1).post (fun acc S2 => (mk m acc S2).post Q X) X) X := by
  rw [show evalE E (.lc m own tg it ts e) G S = (evalI E it G S).bind fun ds S1 => (lcLoop (turnOf E G own tg ts e) ds [] S1).bind fun acc S2 => mk m acc S2 from rfl]
  simp only [post_bind]
theorem s_asgLp {m : Bool} {own : List (Str × Nat)} {tg it ts : C} : (evalS E (.asgL i m own tg it ts e) G S).post K = (evalI E it G S).post (fun ds S1 => (lcLoop (turnOf E G own tg ts e) ds [] S1).post (fun acc S2 => (mk m acc S2).post (fun x S1 => K.nx (G.set i (some x)) S1) (fun e S => K.ex e G S)) (fun e S => K.ex e G S)) (fun e S => K.ex e G S) := by
  rw [show evalS E (.asgL i m own tg it ts e) G S = RS.ofR G ((evalI E it G S).bind fun ds S1 => (lcLoop (turnOf E G own tg ts e) ds [] S1).bind fun acc S2 => mk m acc S2) fun x S1 => .nx (G.set i (some x)) S1 from rfl]
  simp only [ps_ofR, post_bind, ps_nx]
theorem p_turn {own : List (Str × Nat)} {tg ts : C} {d : D} {QO : Option D → Sto → Prop} : (turnOf E G own tg ts e d S).post QO X = ∃ G1, asgG tg d (wipeG G (own.map (·.2))) = some G1 ∧ (evalT E ts G1 S).post (fun c S1 => if c = true then (evalE E e G1 S1).post (fun y S2 => QO (some y) S2) X else QO none S1) X := by
  unfold turnOf
  cases asgG tg d (wipeG G (own.map (·.2))) with
  | none => simp [R.post]
  | some G1 =>
    simp only [post_bind, Option.some.injEq, exists_eq_left']
    congr 1
    funext x S1
    cases x <;> simp [post_ok, post_bind]
/-! statements -/
theorem s_passp : (evalS E .pass G S).post K = K.nx G S := rfl
theorem s_brkp : (evalS E .brk G S).post K = K.bk G S := rfl
theorem s_contp : (evalS E .cont G S).post K = K.ct G S := rfl
theorem s_seqp : (evalS E (.seq a b) G S).post K = (evalS E a G S).post { K with nx := fun G S => (evalS E b G S).post K } := by
  rw [show evalS E (.seq a b) G S = (evalS E a G S).then_ fun G1 S1 => evalS E b G1 S1 from rfl, ps_then]
theorem s_fseqp : (evalS E (.fseq i b) G S).post K = ∃ n xs, G[i]? = some (some (.ref n)) ∧ S[n]? = some (.lst xs) ∧ (evalS E b (G.set i (some (.lst xs))) (S.set n .dead)).post K := by
  rw [show evalS E (.fseq i b) G S = (match G[i]? with
    | some (some d) => match freeze S d with
      | some (d', S') => evalS E b (G.set i (some d')) S'
      | none => .bad
    | _ => .bad) from rfl]
  split
  · rename_i d h
    rw [h]
    cases d with
    | ref n =>
      unfold freeze
      cases q : S[n]? with
      | none => simp [RS.post, q]
      | some m => cases m <;> simp [RS.post, q]
    | _ => simp [freeze, RS.post]
  · rename_i h
    simp only [ps_bad, eq_iff_iff, false_iff]
    rintro ⟨n, xs, h1, _⟩
    exact h _ h1
theorem s_asgp : (evalS E (.asg t e) G S).post K = (evalE E e G S).post (fun x S1 => ∃ G1, asgG t x G = some G1 ∧ K.nx G1 S1) (fun e S => K.ex e G S) := by
  rw [show evalS E (.asg t e) G S = RS.ofR G (evalE E e G S) (fun x S1 => match asgG t x G with
    | some G1 => .nx G1 S1
    | none => .bad) from rfl, ps_ofR]
  congr 1
  funext x S1
  cases asgG t x G <;> simp [RS.post]
theorem s_aixp : (evalS E (.aix a b e) G S).post K = (evalE E e G S).post (fun x S1 => (evalE E a G S1).post (fun y S2 => (evalE E b G S2).post (fun z S3 => ∃ S4, setF y z x S3 = some S4 ∧ K.nx G S4) (fun e S => K.ex e G S)) (fun e S => K.ex e G S)) (fun e S => K.ex e G S) := by
  rw [show evalS E (.aix a b e) G S = RS.ofR G (evalE E e G S) (fun x S1 => .ofR G (evalE E a G S1) fun y S2 => .ofR G (evalE E b G S2) fun z S3 => match setF y z x S3 with
    | some S4 => .nx G S4
    | none => .bad) from rfl]
  simp only [ps_ofR]
  congr 1
  funext x S1
  congr 1
  funext y S2
  congr 1
  funext z S3
  cases setF y z x S3 <;> simp [RS.post]
theorem s_parp : (evalS E (.par i j a b) G S).post K = (evalE E a G S).post (fun x S1 => (evalE E b G S1).post (fun y S2 => K.nx ((G.set i (some x)).set j (some y)) S2) (fun e S => K.ex e G S)) (fun e S => K.ex e G S) := by
  rw [show evalS E (.par i j a b) G S = RS.ofR G (evalE E a G S) (fun x S1 => .ofR G (evalE E b G S1) fun y S2 => .nx ((G.set i (some x)).set j (some y)) S2) from rfl]
  simp only [ps_ofR, ps_nx]
theorem s_retp : (evalS E (.ret e) G S).post K = (evalE E e G S).post K.rt (fun e S => K.ex e G S) := by
  rw [show evalS E (.ret e) G S = RS.ofR G (evalE E e G S) (fun x S1 => .rt x S1) from rfl]
  simp only [ps_ofR, ps_rt]
theorem s_ret0p : (evalS E .ret0 G S).post K = K.rt .non S := rfl
theorem s_ifsp : (evalS E (.ifs t a b) G S).post K = (evalT E t G S).post (fun c S1 => if c = true then (evalS E a G S1).post K else (evalS E b G S1).post K) (fun e S => K.ex e G S) := by
  rw [show evalS E (.ifs t a b) G S = RS.ofR G (evalT E t G S) (fun c S1 => if c = true then evalS E a G S1 else evalS E b G S1) from rfl, ps_ofR]
  congr 1
  funext c S1
  cases c <;> simp
theorem s_forp : (evalS E (.for_ t a b) G S).post K = (evalI E a G S).post (fun ds S1 => (forLoop (asgG t) (fun G S => evalS E b G S) ds G S1).post K) (fun e S => K.ex e G S) := by
  rw [show evalS E (.for_ t a b) G S = RS.ofR G (evalI E a G S) (fun ds S1 => forLoop (asgG t) (fun G S => evalS E b G S) ds G S1) from rfl, ps_ofR]
theorem s_dropp : (evalS E (.drop e) G S).post K = (evalE E e G S).post (fun _ S1 => K.nx G S1) (fun e S => K.ex e G S) := by
  rw [show evalS E (.drop e) G S = RS.ofR G (evalE E e G S) (fun _ S1 => .nx G S1) from rfl]
  simp only [ps_ofR, ps_nx]
end
/-! ### rules for loops -/
section
variable {tg : D → Gam → Option Gam} {body : Gam → Sto → RS} {K : Pk}
/-- I: what holds with these items still to come -/
theorem for_post (I : List D → Gam → Sto → Prop) (hn : ∀ G S, I [] G S → K.nx G S)
    (hs : ∀ d ds G S, I (d :: ds) G S → ∃ G1, tg d G = some G1 ∧ (body G1 S).post { nx := I ds, rt := K.rt, bk := K.nx, ct := I ds, ex := K.ex }) : ∀ ds G S, I ds G S → (forLoop tg body ds G S).post K
  | [], G, S, h => hn G S h
  | d :: ds, G, S, h => by
    obtain ⟨G1, e, q⟩ := hs d ds G S h
    rw [forLoop, e]
    dsimp only
    cases r : body G1 S with
    | nx G2 S2 => rw [r] at q; exact for_post I hn hs ds G2 S2 q
    | ct G2 S2 => rw [r] at q; exact for_post I hn hs ds G2 S2 q
    | bk G2 S2 => rw [r] at q; exact q
    | rt d S2 => rw [r] at q; exact q
    | exc e G2 S2 => rw [r] at q; exact q
    | bad => rw [r] at q; exact q
variable {turn : D → Sto → R (Option D)}
theorem lc_post (I : List D → List D → Sto → Prop) {Q : List D → Sto → Prop} {X : XP} (hn : ∀ acc S, I [] acc S → Q acc S)
    (hs : ∀ d ds acc S, I (d :: ds) acc S → (turn d S).post (fun o S1 => match o with | some y => acc.length < lim ∧ I ds (acc ++ [y]) S1 | none => I ds acc S1) noX) : ∀ ds acc S, I ds acc S → (lcLoop turn ds acc S).post Q X
  | [], acc, S, h => hn acc S h
  | d :: ds, acc, S, h => by
    have q := hs d ds acc S h
    rw [lcLoop]
    cases r : turn d S with
    | ok o S1 =>
      rw [r] at q
      cases o with
      | none => exact lc_post I hn hs ds acc S1 q
      | some y =>
        have q : acc.length < lim ∧ I ds (acc ++ [y]) S1 := q
        dsimp only
        rw [if_pos q.1]
        exact lc_post I hn hs ds _ S1 q.2
    | exc e S1 => rw [r] at q; exact q.elim
    | bad => rw [r] at q; exact q.elim
end
end Itp

namespace Itp
open PySem PySem.Spec L2
section
variable {S : Sto} {X : XP} {Q : D → Sto → Prop} {m : Bool} {i j : Int} {x y : Str} {n : Nat} {ds : List D} {xs ys : List D} {d : D} {b c : Bool}
theorem o_add : (binop m .Add (.int i) (.int j) S).post Q X = Q (.int (i + j)) S := rfl
theorem o_sub : (binop m .Sub (.int i) (.int j) S).post Q X = Q (.int (i - j)) S := rfl
theorem o_mul : (binop m .Mult (.int i) (.int j) S).post Q X = (i.natAbs.log2 + j.natAbs.log2 < 1000000 ∧ Q (.int (i * j)) S) := post_if
theorem o_mod : (binop m .Mod (.int i) (.int j) S).post Q X = (0 < j ∧ Q (.int (i % j)) S) := post_if
theorem o_div : (binop m .FloorDiv (.int i) (.int j) S).post Q X = ((0 < j ∧ j.natAbs.log2 < 9000) ∧ Q (.int (i / j)) S) := post_if
theorem o_pow : (binop m .Pow (.int i) (.int j) S).post Q X = ((0 ≤ j ∧ j ≤ 1000000 ∧ i.natAbs < 2 ^ 64) ∧ Q (.int (i ^ j.toNat)) S) := post_if
theorem o_addS : (binop m .Add (.str x) (.str y) S).post Q X = (x.length + y.length ≤ lim ∧ Q (.str (x ++ y)) S) := post_if
theorem o_mulS : (binop m .Mult (.str x) (.int j) S).post Q X = ((0 ≤ j ∧ j ≤ 1000 ∧ x.length ≤ 1000) ∧ Q (.str (Txt.mul x j)) S) := post_if
theorem o_addL : (binop m .Add (.lst xs) (.lst ys) S).post Q X = (xs.length + ys.length ≤ lim ∧ (mk m (xs ++ ys) S).post Q X) := post_if
theorem o_addRL : (binop m .Add (.ref n) (.lst ys) S).post Q X = ∃ xs, S[n]? = some (.lst xs) ∧ xs.length + ys.length ≤ lim ∧ (mk m (xs ++ ys) S).post Q X := by
  show (match lview S (.ref n), lview S (.lst ys) with
    | some xs, some ys => if xs.length + ys.length ≤ lim then mk m (xs ++ ys) S else .bad
    | _, _ => .bad).post Q X = _
  unfold lview
  cases q : S[n]? with
  | none => simp [q, R.post]
  | some o => cases o <;> simp [q, post_if, post_bad]
theorem o_mulL : (binop m .Mult (.lst xs) (.int j) S).post Q X = ((0 ≤ j ∧ j ≤ 1000 ∧ xs.length ≤ 1000) ∧ (mk m (List.replicate j.toNat xs).flatten S).post Q X) := post_if
theorem o_neg : (unop .USub (.int i) S).post Q X = Q (.int (-i)) S := rfl
theorem m_eqI : cmpB .Eq (.int i) (.int j) S = some (decide (i = j)) := rfl
theorem m_neI : cmpB .NotEq (.int i) (.int j) S = some (!decide (i = j)) := rfl
theorem m_eqS : cmpB .Eq (.str x) (.str y) S = some (decide (x = y)) := rfl
theorem m_neS : cmpB .NotEq (.str x) (.str y) S = some (!decide (x = y)) := rfl
theorem m_eqB : cmpB .Eq (.bl b) (.bl c) S = some (decide (b = c)) := rfl
theorem m_neB : cmpB .NotEq (.bl b) (.bl c) S = some (!decide (b = c)) := rfl
theorem m_lt : cmpB .Lt (.int i) (.int j) S = some (decide (i < j)) := rfl
theorem m_le : cmpB .LtE (.int i) (.int j) S = some (decide (i ≤ j)) := rfl
theorem m_gt : cmpB .Gt (.int i) (.int j) S = some (decide (j < i)) := rfl
theorem m_ge : cmpB .GtE (.int i) (.int j) S = some (decide (j ≤ i)) := rfl
theorem m_inc : cmpB .In (.str ⟨#[n]⟩) (.str y) S = some (decide (n ∈ y.cps.toList)) := rfl
theorem tr_bl : truth S (.bl b) = some b := rfl
theorem tr_int : truth S (.int i) = some (i != 0) := rfl
theorem tr_non : truth S .non = some false := rfl
theorem tr_lst : truth S (.lst xs) = some (!xs.isEmpty) := rfl
theorem tr_tup : truth S (.tup xs) = some (!xs.isEmpty) := rfl
theorem f_abs : (biF m .abs [.int i] S).post Q X = Q (.int (if i < 0 then -i else i)) S := rfl
theorem f_int : (biF m .int [.int i] S).post Q X = Q (.int i) S := rfl
theorem f_intB : (biF m .int [.bl b] S).post Q X = Q (.int (if b then 1 else 0)) S := rfl
theorem f_boolI : (biF m .bool [.int i] S).post Q X = Q (.bl (i != 0)) S := rfl
theorem f_str : (biF m .str [.int i] S).post Q X = (i.natAbs.log2 < 1920 ∧ Q (.str (toString i)) S) := post_if
theorem f_max : (biF m .max [.int i, .int j] S).post Q X = Q (.int (if j > i then j else i)) S := rfl
theorem f_min : (biF m .min [.int i, .int j] S).post Q X = Q (.int (if j < i then j else i)) S := rfl
theorem f_isin {t : Tn} : (biF m .isin [d, .ty t] S).post Q X = ∃ u, tyOf S d = some u ∧ Q (.bl (isiB u t)) S := by
  show (match tyOf S d with
    | some u => .ok (.bl (isiB u t)) S
    | none => .bad : R D).post Q X = _
  cases tyOf S d <;> simp [R.post]
theorem y_non : tyOf S .non = some .non := rfl
theorem y_bl : tyOf S (.bl b) = some .bool := rfl
theorem y_int : tyOf S (.int i) = some .int := rfl
theorem y_str : tyOf S (.str x) = some .str := rfl
theorem y_tup : tyOf S (.tup xs) = some .tuple := rfl
theorem y_lst : tyOf S (.lst xs) = some .list := rfl
theorem y_dct : tyOf S (.dct xs ys) = some .dict := rfl
theorem isi_same {t : Tn} : isiB t t = true := by cases t <;> rfl
theorem f_lenS : (biF m .len [.str x] S).post Q X = (x.length ≤ lim ∧ Q (.int x.length) S) := by
  show (match (if x.length ≤ lim then some x.length else none) with
    | some n => .ok (.int n) S
    | none => .bad : R D).post Q X = _
  by_cases h : x.length ≤ lim <;> simp [h, R.post]
theorem f_lenL : (biF m .len [.lst xs] S).post Q X = Q (.int xs.length) S := rfl
theorem f_lenT : (biF m .len [.tup xs] S).post Q X = Q (.int xs.length) S := rfl
theorem f_lenC {ns : List Int} : (biF m .len [.scr ns] S).post Q X = Q (.int ns.length) S := rfl
theorem f_listL : (biF m .list [.lst xs] S).post Q X = (mk m xs S).post Q X := rfl
theorem f_listT : (biF m .list [.tup xs] S).post Q X = (mk m xs S).post Q X := rfl
theorem f_listR : (biF m .list [.ref n] S).post Q X = ∃ xs, S[n]? = some (.lst xs) ∧ (mk m xs S).post Q X := by
  show (match sview S (.ref n) with
    | some xs => mk m xs S
    | none => .bad : R D).post Q X = _
  unfold sview lview
  cases q : S[n]? with
  | none => simp [q, R.post]
  | some o => cases o <;> simp [q, post_bad]
theorem f_all : (biF m .all [.lst xs] S).post Q X = ∃ bs, bools xs = some bs ∧ Q (.bl (bs.all id)) S := by
  show (match bools xs with
    | some bs => .ok (.bl (bs.all id)) S
    | none => .bad : R D).post Q X = _
  cases bools xs <;> simp [R.post]
theorem f_any : (biF m .any [.lst xs] S).post Q X = ∃ bs, bools xs = some bs ∧ Q (.bl (bs.any id)) S := by
  show (match bools xs with
    | some bs => .ok (.bl (bs.any id)) S
    | none => .bad : R D).post Q X = _
  cases bools xs <;> simp [R.post]
theorem f_repr : (biF m .repr [d] S).post Q X = ∃ x, reprD S d = some x ∧ Q (.str x) S := by
  show (match reprD S d with
    | some x => .ok (.str x) S
    | none => .bad : R D).post Q X = _
  cases reprD S d <;> simp [R.post]
theorem x_scr {ns : List Int} : (ixF (.scr ns) (.int i) S).post Q X = ∃ j, atI ns i = some j ∧ Q (.int j) S := by
  show (match atI ns i with
    | some j => .ok (.int j) S
    | none => .bad : R D).post Q X = _
  cases atI ns i <;> simp [R.post]
theorem x_str : (ixF (.str x) (.int i) S).post Q X = ∃ c, atI x.cps.toList i = some c ∧ x.length ≤ lim ∧ Q (.str ⟨#[c]⟩) S := by
  show (match atI x.cps.toList i with
    | some c => if x.length ≤ lim then .ok (.str ⟨#[c]⟩) S else .bad
    | none => .bad : R D).post Q X = _
  cases atI x.cps.toList i <;> simp [post_if, post_ok, post_bad]
theorem x_lst : (ixF (.lst xs) (.int i) S).post Q X = ∃ d, atI xs i = some d ∧ Q d S := by
  show (match (some xs).bind fun xs => atI xs i with
    | some d => .ok d S
    | none => .bad : R D).post Q X = _
  rw [Option.bind_some]
  cases atI xs i <;> simp [R.post]
theorem x_tup : (ixF (.tup xs) (.int i) S).post Q X = ∃ d, atI xs i = some d ∧ Q d S := by
  show (match (some xs).bind fun xs => atI xs i with
    | some d => .ok d S
    | none => .bad : R D).post Q X = _
  rw [Option.bind_some]
  cases atI xs i <;> simp [R.post]
theorem x_ref : (ixF (.ref n) (.int i) S).post Q X = ∃ xs, S[n]? = some (.lst xs) ∧ ∃ d, atI xs i = some d ∧ Q d S := by
  show (match (sview S (.ref n)).bind fun xs => atI xs i with
    | some d => .ok d S
    | none => .bad : R D).post Q X = _
  unfold sview lview
  cases q : S[n]? with
  | none => simp [q, R.post]
  | some o =>
    cases o with
    | lst xs =>
      simp only [Option.bind_some, Option.some.injEq, MO.lst.injEq, exists_eq_left']
      cases z : atI xs i <;> simp [q, z, R.post]
    | dead => simp [q, R.post]
theorem w_ref {v : D} {P : Sto → Prop} : (∃ S4, setF (.ref n) (.int i) v S = some S4 ∧ P S4) = ∃ xs, S[n]? = some (.lst xs) ∧ ∃ k, ixN xs.length i = some k ∧ P (S.set n (.lst (xs.set k v))) := by
  unfold setF
  cases q : S[n]? with
  | none => simp [q]
  | some o =>
    cases o with
    | lst xs =>
      simp only [Option.some.injEq, MO.lst.injEq, exists_eq_left']
      cases z : ixN xs.length i <;> simp [q, z]
    | dead => simp [q]
theorem h_append : (meF .append (.ref n) [d] S).post Q X = ∃ xs, S[n]? = some (.lst xs) ∧ xs.length < lim ∧ Q .non (S.set n (.lst (xs ++ [d]))) := by
  show (match S[n]? with
    | some (.lst xs) => if xs.length < lim then .ok .non (S.set n (.lst (xs ++ [d]))) else .bad
    | _ => .bad : R D).post Q X = _
  cases q : S[n]? with
  | none => simp [q, R.post]
  | some o => cases o <;> simp [q, post_if, post_ok, post_bad]
theorem h_extend : (meF .extend (.ref n) [.lst ys] S).post Q X = ∃ xs, S[n]? = some (.lst xs) ∧ xs.length + ys.length ≤ lim ∧ Q .non (S.set n (.lst (xs ++ ys))) := by
  show (match S[n]?, lview S (.lst ys) with
    | some (.lst xs), some ys => if xs.length + ys.length ≤ lim then .ok .non (S.set n (.lst (xs ++ ys))) else .bad
    | _, _ => .bad : R D).post Q X = _
  unfold lview
  cases q : S[n]? with
  | none => simp [q, R.post]
  | some o => cases o <;> simp [q, post_if, post_ok, post_bad]
theorem h_strip : (meF .strip1 (.str x) [.str y] S).post Q X = (x.length ≤ lim ∧ Q (.str (Txt.stripChars x y)) S) := post_if
theorem it_ref : (isT S "list" (.ref n) = true) = ∃ xs, S[n]? = some (.lst xs) := by
  unfold isT lview
  cases q : S[n]? with
  | none => simp [q]
  | some o => cases o <;> simp [q]
theorem it_str : (isT S "str" (.str x) = true) = True := by simp [isT]
theorem it_lst : (isT S "list" (.lst xs) = true) = True := by simp [isT, lview]
theorem mT_a : Me.append.T = "list" := rfl
theorem mT_e : Me.extend.T = "list" := rfl
theorem mT_s : Me.strip1.T = "str" := rfl
theorem ov_l : overD (.lst xs) = some xs := rfl
theorem ov_t : overD (.tup xs) = some xs := rfl
end
end Itp

namespace Itp
open PySem PySem.Spec L2
/-! ### stores -/
section
variable {S T : Sto} {i j : Nat} {m v : MO}
theorem st_lt (h : S[i]? = some m) : i < S.length := (List.getElem?_eq_some_iff.mp h).1
theorem st_app (h : S[i]? = some m) : (S ++ T)[i]? = some m := by
  rw [List.getElem?_append_left (st_lt h)]
  exact h
theorem st_new : (S ++ [m])[S.length]? = some m := by simp
theorem st_set (h : S[i]? = some m) : (S.set i v)[i]? = some v := List.getElem?_set_self (st_lt h)
theorem st_ne (h : S[i]? = some m) (n : i ≠ j) : (S.set j v)[i]? = some m := by
  rw [List.getElem?_set_ne (fun e => n e.symm)]
  exact h
end
/-! ### sizes -/
theorem lg1 {x : Int} (h : -(2 ^ 200 : Int) < x) (h' : x < 2 ^ 200) : x.natAbs.log2 < 200 := by
  have h3 : x.natAbs < 2 ^ 200 := by omega
  by_cases z : x.natAbs = 0
  · rw [z]
    decide
  · exact (Nat.log2_lt z).mpr h3
theorem lg2 {x y : Int} (h : -(2 ^ 200 : Int) < x) (h' : x < 2 ^ 200) (g : -(2 ^ 200 : Int) < y) (g' : y < 2 ^ 200) : x.natAbs.log2 + y.natAbs.log2 < 1000000 := by
  have := lg1 h h'
  have := lg1 g g'
  omega
/-! ### places -/
theorem at_lt {α : Type} {xs : List α} {i : Nat} (h : i < xs.length) : atI xs (i : Int) = some xs[i] := by
  unfold atI ixN
  rw [if_pos (Int.natCast_nonneg i), if_pos (Int.ofNat_lt.mpr h)]
  simp [h]
theorem at_in {α : Type} {xs : List α} {i : Int} (h0 : 0 ≤ i) (h : i < xs.length) : ∃ x, atI xs i = some x ∧ x ∈ xs := by
  obtain ⟨n, rfl⟩ := Int.eq_ofNat_of_zero_le h0
  have hn : n < xs.length := by omega
  exact ⟨_, at_lt hn, List.getElem_mem hn⟩
theorem a3_0 {α : Type} (a b c : α) : atI [a, b, c] 0 = some a := rfl
theorem a3_1 {α : Type} (a b c : α) : atI [a, b, c] 1 = some b := rfl
theorem a3_2 {α : Type} (a b c : α) : atI [a, b, c] 2 = some c := rfl
theorem i3_0 {α : Type} (a b c : α) : ixN [a, b, c].length 0 = some 0 := rfl
theorem i3_2 {α : Type} (a b c : α) : ixN [a, b, c].length 2 = some 2 := rfl
/-! ### the dice of the laws -/
/-- the dice stand at n, at most k rolled -/
def Dc (S : Sto) (n : Nat) (k : Nat) : Prop := ∃ a b c : Int, S[n]? = some (.lst [.int a, .int b, .int c]) ∧ 0 ≤ c ∧ c ≤ k
/-- only the dice are written -/
def Sm (S S' : Sto) (n : Nat) : Prop := S'.length = S.length ∧ ∀ i, i ≠ n → S'[i]? = S[i]?
theorem Sm.set (S : Sto) (n : Nat) (m : MO) : Sm S (S.set n m) n := ⟨List.length_set .., fun i h => List.getElem?_set_ne (fun e => h e.symm)⟩
theorem Sm.refl (S : Sto) (n : Nat) : Sm S S n := ⟨rfl, fun _ _ => rfl⟩
theorem Sm.trans {S S' T : Sto} {n : Nat} (a : Sm S S' n) (b : Sm S' T n) : Sm S T n := ⟨b.1.trans a.1, fun i h => (b.2 i h).trans (a.2 i h)⟩
theorem Sm.get {S S' : Sto} {n i : Nat} {m : MO} (a : Sm S S' n) (h : S[i]? = some m) (ne : i ≠ n) : S'[i]? = some m := by rw [a.2 i ne]; exact h
theorem Dc.lt {S : Sto} {n k : Nat} (h : Dc S n k) : n < S.length := by obtain ⟨_, _, _, h, _⟩ := h; exact st_lt h
theorem Dc.app {S T : Sto} {n k : Nat} (h : Dc S n k) : Dc (S ++ T) n k := by obtain ⟨a, b, c, h, q⟩ := h; exact ⟨a, b, c, st_app h, q⟩
theorem Dc.ne {S : Sto} {n k j : Nat} {v : MO} (h : Dc S n k) (ne : j ≠ n) : Dc (S.set j v) n k := by obtain ⟨a, b, c, h, q⟩ := h; exact ⟨a, b, c, st_ne h (Ne.symm ne), q⟩
theorem Dc.le {S : Sto} {n k k' : Nat} (h : Dc S n k) (l : k ≤ k') : Dc S n k' := by obtain ⟨a, b, c, h, q1, q2⟩ := h; exact ⟨a, b, c, h, q1, by omega⟩
/-! ### pure comprehensions -/
section
variable {turn : D → Sto → R (Option D)} {S : Sto} {X : XP}
/-- each item gives one -/
theorem lc_map {P : D → Prop} {f : D → D} (hs : ∀ d S, P d → (turn d S).post (fun o S1 => S1 = S ∧ o = some (f d)) noX) {ds : List D} (hp : ∀ d ∈ ds, P d) (hl : ds.length ≤ lim) : (lcLoop turn ds [] S).post (fun acc S1 => S1 = S ∧ acc = ds.map f) X := by
  refine lc_post (fun rem acc S1 => S1 = S ∧ (∀ d ∈ rem, P d) ∧ acc.length + rem.length = ds.length ∧ acc ++ rem.map f = ds.map f) ?_ ?_ ds [] S ⟨rfl, hp, by simp, by simp⟩
  · rintro acc S1 ⟨rfl, _, _, h⟩
    exact ⟨rfl, by simpa using h⟩
  · rintro d rem acc S1 ⟨rfl, h1, h2, h3⟩
    refine (hs d S1 (h1 d (List.mem_cons_self ..))).mono ?_ fun _ _ z => z
    rintro o S2 ⟨rfl, rfl⟩
    simp only [List.length_cons] at h2
    exact ⟨by omega, rfl, fun x hx => h1 x (List.mem_cons_of_mem _ hx), by simp; omega, by simpa using h3⟩
/-- items are kept or not -/
theorem lc_keep {P : D → Prop} {f : D → Option D} (hs : ∀ d S, P d → (turn d S).post (fun o S1 => S1 = S ∧ o = f d) noX) {ds : List D} (hp : ∀ d ∈ ds, P d) (hl : ds.length ≤ lim) : (lcLoop turn ds [] S).post (fun acc S1 => S1 = S ∧ acc = ds.filterMap f) X := by
  refine lc_post (fun rem acc S1 => S1 = S ∧ (∀ d ∈ rem, P d) ∧ acc.length + rem.length ≤ ds.length ∧ acc ++ rem.filterMap f = ds.filterMap f) ?_ ?_ ds [] S ⟨rfl, hp, by simp, by simp⟩
  · rintro acc S1 ⟨rfl, _, _, h⟩
    exact ⟨rfl, by simpa using h⟩
  · rintro d rem acc S1 ⟨rfl, h1, h2, h3⟩
    refine (hs d S1 (h1 d (List.mem_cons_self ..))).mono ?_ fun _ _ z => z
    rintro o S2 ⟨rfl, e⟩
    simp only [List.length_cons] at h2
    cases q : f d with
    | none =>
      rw [q] at e
      subst e
      rw [List.filterMap_cons, q] at h3
      exact ⟨rfl, fun x hx => h1 x (List.mem_cons_of_mem _ hx), by omega, h3⟩
    | some y =>
      rw [q] at e
      subst e
      rw [List.filterMap_cons, q] at h3
      exact ⟨by omega, rfl, fun x hx => h1 x (List.mem_cons_of_mem _ hx), by simp; omega, by simpa using h3⟩
end
/-! ### texts -/
/-- texts of at most b signs -/
def SL (b : Nat) (xs : List D) : Prop := ∀ y ∈ xs, ∃ z : Str, y = .str z ∧ z.length ≤ b
theorem SL.mono {b c : Nat} {xs : List D} (h : SL b xs) (l : b ≤ c) : SL c xs := fun y hy => let ⟨z, e, q⟩ := h y hy; ⟨z, e, by omega⟩
theorem SL.app {b : Nat} {xs ys : List D} (h : SL b xs) (g : SL b ys) : SL b (xs ++ ys) := fun y hy => (List.mem_append.mp hy).elim (h y) (g y)
theorem SL.one {b : Nat} {z : Str} (h : z.length ≤ b) : SL b [.str z] := fun y hy => by simp at hy; exact ⟨z, hy, h⟩
theorem SL.nil {b : Nat} : SL b [] := fun y hy => by cases hy
theorem SL.tail {b : Nat} {x : D} {xs : List D} (h : SL b (x :: xs)) : SL b xs := fun y hy => h y (List.mem_cons_of_mem _ hy)
theorem SL.head {b : Nat} {x : D} {xs : List D} (h : SL b (x :: xs)) : ∃ z : Str, x = .str z ∧ z.length ≤ b := h x (List.mem_cons_self ..)
end Itp

namespace Lk00
open PySem PySem.Spec L2 Itp
def top (i : Nat) : Stmt := PySem.Challenge.pw_touchrows_k00_whole_names_and_numbers.main.body.getD i (.Pass ⟨0, 0, 0, 0⟩)
def bl : List Str := ["abs", "all", "bool", "int", "isinstance", "len", "list", "max", "min", "range", "repr", "str"]
def cs : List (Str × Key) := [("MAX_LETTERS", .inl (8)), ("MAX_FIGURES", .inl (60)), ("ALPHABET", .inr "abcdefghijklmnopqrstuvwxyz"), ("LIMIT", .inl (10 ^ 60))]
def f_is_integer : Fn := ⟨"is_integer", ["value"], ["value"],
  (.seq (.ret (.and (.bi false .isin (.cons (.var 0) (.cons (.ty .int) .nil))) (.and (.not (.bi false .isin (.cons (.var 0) (.cons (.ty .bool) .nil)))) (.one (.chain .Lt .Lt (.un .USub (.glo "LIMIT")) (.var 0) (.glo "LIMIT")))))) .pass)⟩
def f_is_count : Fn := ⟨"is_count", ["value"], ["value"],
  (.seq (.ret (.and (.call "is_integer" (.cons (.var 0) .nil)) (.one (.cmp .GtE (.var 0) (.kint 0))))) .pass)⟩
def f_is_name : Fn := ⟨"is_name", ["value"], ["value", "letter"],
  (.seq (.ifs (.or (.not (.tv (.bi false .isin (.cons (.var 0) (.cons (.ty .str) .nil))))) (.one (.not (.chain .LtE .LtE (.kint 1) (.bi false .len (.cons (.var 0) .nil)) (.glo "MAX_LETTERS"))))) (.seq (.ret (.kbl false)) .pass) .pass) (.seq (.ret (.bi false .all (.cons (.lc false [("letter", 1)] (.tn 1) (.overS (.var 0)) .nil (.cmp .In (.var 1) (.glo "ALPHABET"))) .nil))) .pass))⟩
def f__law_dice : Fn := ⟨"_law_dice", ["_law_script", "_law_spot"], ["_law_script", "_law_spot", "_law_cell", "_law_great", "_law_left"],
  (.seq (.asg (.tn 2) (.ife (.cmp .Lt (.var 1) (.bi false .len (.cons (.var 0) .nil))) (.bi false .int (.cons (.ix (.var 0) (.var 1)) .nil)) (.bin false .Add (.bin false .Mult (.kint 59) (.var 1)) (.kint 13)))) (.seq (.asg (.tn 3) (.bin false .Mod (.bi false .abs (.cons (.var 2) .nil)) (.bin false .Pow (.kint 10) (.kint 58)))) (.seq (.asg (.tn 4) (.bi false .max (.cons (.kint 0) (.cons (.bin false .Sub (.bi false .abs (.cons (.var 2) .nil)) (.bin false .Pow (.kint 10) (.kint 17))) .nil)))) (.seq (.ret (.lst true (.cons (.bin false .Mod (.var 4) (.bin false .Mult (.bin false .Pow (.kint 10) (.kint 60)) (.bin false .Pow (.kint 10) (.kint 60)))) (.cons (.bin false .Add (.bin false .Add (.bin false .Add (.bin false .Mult (.bin false .Mod (.var 3) (.kint 2147483563)) (.kint 41)) (.bin false .Mult (.kint 709) (.var 1))) (.bin false .Mult (.kint 17) (.bi false .int (.cons (.cmp .Lt (.var 2) (.kint 0)) .nil)))) (.kint 3)) (.cons (.kint 0) .nil))))) .pass))))⟩
def f__law_roll : Fn := ⟨"_law_roll", ["_law_dice_here", "_law_total"], ["_law_dice_here", "_law_total", "_law_found", "_law_one", "_law_two"],
  (.seq (.ifs (.cmp .Gt (.ix (.var 0) (.kint 0)) (.kint 0)) (.seq (.asg (.tn 2) (.bin false .Mod (.bi false .int (.cons (.ix (.var 0) (.kint 0)) .nil)) (.var 1))) (.seq (.aix (.var 0) (.kint 0) (.bin false .FloorDiv (.ix (.var 0) (.kint 0)) (.var 1))) (.seq (.ret (.var 2)) .pass))) .pass) (.seq (.aix (.var 0) (.kint 2) (.bin false .Add (.ix (.var 0) (.kint 2)) (.kint 1))) (.seq (.asg (.tn 3) (.bin false .Mod (.bi false .int (.cons (.bin false .Add (.ix (.var 0) (.kint 1)) (.bin false .Mult (.kint 8111) (.ix (.var 0) (.kint 2)))) .nil)) (.kint 2305843009213693723))) (.seq (.asg (.tn 4) (.bin false .Add (.bin false .Mult (.bin false .Mod (.bi false .int (.cons (.bin false .Add (.bin false .Mult (.var 3) (.var 3)) (.bin false .Mult (.kint 71) (.ix (.var 0) (.kint 2)))) .nil)) (.kint 2305843009213693669)) (.kint 7368787)) (.var 3))) (.seq (.ret (.bin false .Mod (.bi false .int (.cons (.bin false .FloorDiv (.var 4) (.kint 32768)) .nil)) (.var 1))) .pass)))))⟩
def f__law_pick : Fn := ⟨"_law_pick", ["_law_dice_here", "_law_items"], ["_law_dice_here", "_law_items"],
  (.seq (.ret (.ix (.var 1) (.call "_law_roll" (.cons (.var 0) (.cons (.bi false .len (.cons (.var 1) .nil)) .nil))))) .pass)⟩
def k_strings_1 : C := (.fseq 4 (.seq (.ret (.var 4)) .pass))
def k_strings_2 : C := (.seq (.drop (.me .append (.var 4) (.cons (.bin false .Add (.bin false .Add (.bin false .Mult (.ix (.var 2) (.kint 0)) (.var 10)) (.call "_law_pick" (.cons (.var 0) (.cons (.var 2) .nil)))) (.bin false .Mult (.ix (.var 2) (.kint 0)) (.bin false .Sub (.bin false .Sub (.var 9) (.kint 1)) (.var 10)))) .nil))) .pass)
def b_strings_3 : C := (.seq (.asg (.tn 10) (.call "_law_roll" (.cons (.var 0) (.cons (.var 9) .nil)))) k_strings_2)
def k_strings_4 : C := (.seq (.for_ (.tn 9) (.over (.tup (.cons (.kint 7) (.cons (.kint 8) (.cons (.kint 9) (.cons (.kint 40) .nil)))))) b_strings_3) k_strings_1)
def k_strings_5 : C := (.seq (.asg (.tn 3) (.bi false .list (.cons (.var 6) .nil))) (.seq (.asg (.tn 4) (.bin true .Add (.var 4) (.var 3))) .pass))
def b_strings_6 : C := (.seq (.drop (.me .extend (.var 6) (.cons (.lc false [("_law_sign", 8)] (.tn 8) (.over (.var 2)) .nil (.bin false .Add (.var 7) (.var 8))) .nil))) .pass)
def b_strings_7 : C := (.seq (.asg (.tn 6) (.lst true .nil)) (.seq (.for_ (.tn 7) (.over (.var 3)) b_strings_6) k_strings_5))
def k_strings_8 : C := (.seq (.par 3 4 (.lst false (.cons (.kstr "") .nil)) (.lst true (.cons (.kstr "") .nil))) (.seq (.for_ (.tn 5) (.range1 (.kint 5)) b_strings_7) k_strings_4))
def f__law_strings : Fn := ⟨"_law_strings", ["_law_dice_here"], ["_law_dice_here", "_law_odd", "_law_signs", "_law_layer", "_law_found", "_law_turn", "_law_longer", "_law_text", "_law_sign", "_law_size", "_law_at"],
  (.seq (.asg (.tn 1) (.kstr "ABYZ 0159_-.,:;#()[]{}<>|~`'\"\\/@^&*+=!?$\n")) (.seq (.asg (.tn 2) (.lst false (.cons (.call "_law_pick" (.cons (.var 0) (.cons (.kstr "abmyz") .nil))) (.cons (.call "_law_pick" (.cons (.var 0) (.cons (.var 1) .nil))) (.cons (.call "_law_pick" (.cons (.var 0) (.cons (.bin false .Add (.kstr "zq") (.var 1)) .nil))) .nil))))) k_strings_8))⟩
def k_numbers_1 : C := (.seq (.ret (.var 1)) .pass)
def k_numbers_2 : C := (.seq (.asg (.tn 1) (.bin false .Add (.var 1) (.lst false (.cons (.var 5) (.cons (.un .USub (.var 5)) (.cons (.call "_law_roll" (.cons (.var 0) (.cons (.var 3) .nil))) .nil)))))) .pass)
def k_numbers_3 : C := (.seq (.asg (.tn 5) (.bin false .Sub (.bin false .Add (.var 3) (.call "_law_roll" (.cons (.var 0) (.cons (.kint 3) .nil)))) (.kint 1))) k_numbers_2)
def b_numbers_4 : C := (.seq (.asg (.tn 3) (.bin false .Mult (.var 3) (.kint 10))) .pass)
def b_numbers_5 : C := (.seq (.asg (.tn 3) (.kint 1)) (.seq (.for_ (.tn 4) (.range1 (.call "_law_pick" (.cons (.var 0) (.cons (.lst false (.cons (.kint 0) (.cons (.kint 1) (.cons (.kint 16) (.cons (.kint 59) (.cons (.kint 60) (.cons (.kint 60) (.cons (.kint 61) (.cons (.kint 89) .nil))))))))) .nil)))) b_numbers_4) k_numbers_3))
def f__law_numbers : Fn := ⟨"_law_numbers", ["_law_dice_here"], ["_law_dice_here", "_law_found", "_law_turn", "_law_size", "_law_step", "_law_number"],
  (.seq (.asg (.tn 1) (.lst false (.cons (.kint 0) (.cons (.kint 1) (.cons (.un .USub (.kint 1)) .nil))))) (.seq (.for_ (.tn 2) (.range1 (.kint 5)) b_numbers_5) k_numbers_1))⟩
def f__law_is_let : Fn := ⟨"_law_is_let", ["_law_number"], ["_law_number"],
  (.seq (.ret (.cmp .Lt (.bi false .len (.cons (.me .strip1 (.bi false .str (.cons (.var 0) .nil)) (.cons (.kstr "-") .nil)) .nil)) (.kint 61))) .pass)⟩
def k_law_1 : C := (.seq (.ret (.cmp .Eq (.lst false (.cons (.glo "MAX_LETTERS") (.cons (.glo "MAX_FIGURES") .nil))) (.lst false (.cons (.kint 8) (.cons (.kint 60) .nil))))) .pass)
def k_law_2 : C := (.seq (.asg (.tn 6) (.lst false (.cons .knon (.cons (.kbl true) (.cons (.kbl false) (.cons (.tup .nil) (.cons (.tup (.cons (.kstr "a") .nil)) (.cons (.lst false (.cons (.kstr "a") .nil)) (.cons (.dic (.pcons (.kstr "a") (.kint 1) .nil)) (.cons (.tup (.cons (.kint 1) .nil)) (.cons (.lst false (.cons (.kint 1) .nil)) (.cons (.dic (.pcons (.kint 1) (.kint 1) .nil)) (.cons (.tup (.cons (.kstr "a") (.cons (.kstr "b") .nil))) .nil))))))))))))) (.seq (.ifs (.cmp .NotEq (.lc false [("_law_one", 7)] (.tn 7) (.over (.var 6)) (.or (.tv (.call "is_name" (.cons (.var 7) .nil))) (.or (.tv (.call "is_integer" (.cons (.var 7) .nil))) (.one (.tv (.call "is_count" (.cons (.var 7) .nil)))))) (.var 7)) (.lst false .nil)) (.seq (.ret (.kbl false)) .pass) .pass) k_law_1))
def k_law_3 : C := (.seq (.ifs (.cmp .NotEq (.bi false .repr (.cons (.lst false (.cons (.call "is_name" (.cons (.var 5) .nil)) (.cons (.call "is_integer" (.cons (.var 5) .nil)) (.cons (.call "is_count" (.cons (.var 5) .nil)) .nil)))) .nil)) (.bi false .repr (.cons (.var 4) .nil))) (.seq (.ret (.kbl false)) .pass) .pass) .pass)
def b_law_4 : C := (.seq (.asg (.tn 4) (.lst false (.cons (.kbl false) (.cons (.call "_law_is_let" (.cons (.var 5) .nil)) (.cons (.and (.call "_law_is_let" (.cons (.var 5) .nil)) (.one (.cmp .GtE (.var 5) (.kint 0)))) .nil))))) k_law_3)
def k_law_5 : C := (.seq (.for_ (.tn 5) (.over (.call "_law_numbers" (.cons (.var 2) .nil))) b_law_4) .pass)
def b_law_6 : C := (.seq (.asg (.tn 4) (.and (.cmp .Eq (.me .strip1 (.var 3) (.cons (.kstr "abcdefghijklmnopqrstuvwxyz") .nil)) (.kstr "")) (.one (.chain .Lt .Lt (.kint 0) (.bi false .len (.cons (.var 3) .nil)) (.kint 9))))) (.seq (.ifs (.cmp .NotEq (.bi false .repr (.cons (.lst false (.cons (.call "is_name" (.cons (.var 3) .nil)) (.cons (.call "is_integer" (.cons (.var 3) .nil)) (.cons (.call "is_count" (.cons (.var 3) .nil)) .nil)))) .nil)) (.bi false .repr (.cons (.lst false (.cons (.var 4) (.cons (.kbl false) (.cons (.kbl false) .nil)))) .nil))) (.seq (.ret (.kbl false)) .pass) .pass) .pass))
def k_law_7 : C := (.seq (.for_ (.tn 3) (.over (.call "_law_strings" (.cons (.var 2) .nil))) b_law_6) k_law_5)
def b_law_8 : C := (.seq (.asg (.tn 2) (.call "_law_dice" (.cons (.var 0) (.cons (.var 1) .nil)))) k_law_7)
def f_law : Fn := ⟨"law", ["_law_script"], ["_law_script", "_law_spot", "_law_dice_here", "_law_text", "_law_due", "_law_number", "_law_odd", "_law_one"],
  (.seq (.for_ (.tn 1) (.range1 (.bi false .max (.cons (.kint 1) (.cons (.bi false .min (.cons (.kint 3) (.cons (.bi false .len (.cons (.var 0) .nil)) .nil))) .nil)))) b_law_8) k_law_2)⟩
def d_is_integer : He.DefD := ⟨("is_integer", none), "is_integer", "is_integer", defArgs (top 5), defBody (top 5), defScope (top 5), [], []⟩
theorem ok_is_integer : DOk bl f_is_integer d_is_integer := ⟨rfl, rfl, rfl, ⟨rfl, rfl, rfl, by decide +kernel, rfl, by decide +kernel, by decide +kernel⟩, by decide +kernel, fun F => F.bindsN fun _ _ _ _ _ _ us hl => match us, hl with | [_], _ => rfl⟩
def d_is_count : He.DefD := ⟨("is_count", none), "is_count", "is_count", defArgs (top 6), defBody (top 6), defScope (top 6), [], []⟩
theorem ok_is_count : DOk bl f_is_count d_is_count := ⟨rfl, rfl, rfl, ⟨rfl, rfl, rfl, by decide +kernel, rfl, by decide +kernel, by decide +kernel⟩, by decide +kernel, fun F => F.bindsN fun _ _ _ _ _ _ us hl => match us, hl with | [_], _ => rfl⟩
def d_is_name : He.DefD := ⟨("is_name", none), "is_name", "is_name", defArgs (top 7), defBody (top 7), defScope (top 7), [], []⟩
theorem ok_is_name : DOk bl f_is_name d_is_name := ⟨rfl, rfl, rfl, ⟨rfl, rfl, rfl, by decide +kernel, rfl, by decide +kernel, by decide +kernel⟩, by decide +kernel, fun F => F.bindsN fun _ _ _ _ _ _ us hl => match us, hl with | [_], _ => rfl⟩
def d__law_dice : He.DefD := ⟨("_law_dice", none), "_law_dice", "_law_dice", defArgs (top 9), defBody (top 9), defScope (top 9), [], []⟩
theorem ok__law_dice : DOk bl f__law_dice d__law_dice := ⟨rfl, rfl, rfl, ⟨rfl, rfl, rfl, by decide +kernel, rfl, by decide +kernel, by decide +kernel⟩, by decide +kernel, fun F => F.bindsN fun _ _ _ _ _ _ us hl => match us, hl with | [_, _], _ => rfl⟩
def d__law_roll : He.DefD := ⟨("_law_roll", none), "_law_roll", "_law_roll", defArgs (top 10), defBody (top 10), defScope (top 10), [], []⟩
theorem ok__law_roll : DOk bl f__law_roll d__law_roll := ⟨rfl, rfl, rfl, ⟨rfl, rfl, rfl, by decide +kernel, rfl, by decide +kernel, by decide +kernel⟩, by decide +kernel, fun F => F.bindsN fun _ _ _ _ _ _ us hl => match us, hl with | [_, _], _ => rfl⟩
def d__law_pick : He.DefD := ⟨("_law_pick", none), "_law_pick", "_law_pick", defArgs (top 11), defBody (top 11), defScope (top 11), [], []⟩
theorem ok__law_pick : DOk bl f__law_pick d__law_pick := ⟨rfl, rfl, rfl, ⟨rfl, rfl, rfl, by decide +kernel, rfl, by decide +kernel, by decide +kernel⟩, by decide +kernel, fun F => F.bindsN fun _ _ _ _ _ _ us hl => match us, hl with | [_, _], _ => rfl⟩
def d__law_strings : He.DefD := ⟨("_law_strings", none), "_law_strings", "_law_strings", defArgs (top 12), defBody (top 12), defScope (top 12), [], []⟩
theorem ok__law_strings : DOk bl f__law_strings d__law_strings := ⟨rfl, rfl, rfl, ⟨rfl, rfl, rfl, by decide +kernel, rfl, by decide +kernel, by decide +kernel⟩, by decide +kernel, fun F => F.bindsN fun _ _ _ _ _ _ us hl => match us, hl with | [_], _ => rfl⟩
def d__law_numbers : He.DefD := ⟨("_law_numbers", none), "_law_numbers", "_law_numbers", defArgs (top 13), defBody (top 13), defScope (top 13), [], []⟩
theorem ok__law_numbers : DOk bl f__law_numbers d__law_numbers := ⟨rfl, rfl, rfl, ⟨rfl, rfl, rfl, by decide +kernel, rfl, by decide +kernel, by decide +kernel⟩, by decide +kernel, fun F => F.bindsN fun _ _ _ _ _ _ us hl => match us, hl with | [_], _ => rfl⟩
def d__law_is_let : He.DefD := ⟨("_law_is_let", none), "_law_is_let", "_law_is_let", defArgs (top 14), defBody (top 14), defScope (top 14), [], []⟩
theorem ok__law_is_let : DOk bl f__law_is_let d__law_is_let := ⟨rfl, rfl, rfl, ⟨rfl, rfl, rfl, by decide +kernel, rfl, by decide +kernel, by decide +kernel⟩, by decide +kernel, fun F => F.bindsN fun _ _ _ _ _ _ us hl => match us, hl with | [_], _ => rfl⟩
def d_law : He.DefD := ⟨("law", none), "law", "law", defArgs (top 15), defBody (top 15), defScope (top 15), [], []⟩
theorem ok_law : DOk bl f_law d_law := ⟨rfl, rfl, rfl, ⟨rfl, rfl, rfl, by decide +kernel, rfl, by decide +kernel, by decide +kernel⟩, by decide +kernel, fun F => F.bindsN fun _ _ _ _ _ _ us hl => match us, hl with | [_], _ => rfl⟩
def defs0 : Defs := [(f__law_is_let, d__law_is_let), (f__law_numbers, d__law_numbers), (f__law_strings, d__law_strings), (f__law_pick, d__law_pick), (f__law_roll, d__law_roll), (f__law_dice, d__law_dice), (f_is_name, d_is_name), (f_is_count, d_is_count), (f_is_integer, d_is_integer)]
def defs : Defs := (f_law, d_law) :: defs0
theorem all_ok : AllOk bl defs := ⟨ok_law, ok__law_is_let, ok__law_numbers, ok__law_strings, ok__law_pick, ok__law_roll, ok__law_dice, ok_is_name, ok_is_count, ok_is_integer, trivial⟩
def fa : List He.Fa := faL defs bl cs
def fn : List He.DefD := Defs.ds defs
def E_is_integer : Ev := evOf (csts cs) (tabOf (csts cs) [])
def r_is_integer : List D → Sto → R D := f_is_integer.run E_is_integer
theorem b_is_integer (d0 : D) {S : Sto} {Q : D → Sto → Prop} {X : XP} : (r_is_integer [d0] S).post Q X = (evalS E_is_integer f_is_integer.code [some d0] S).post { nx := fun _ S => Q .non S, rt := Q, ex := fun e _ S => X e S } := p_run rfl
theorem c_is_integer_LIMIT : E_is_integer.cst "LIMIT" = some (.int (10 ^ 60)) := by kernel_rfl
def E_is_count : Ev := evOf (csts cs) (tabOf (csts cs) [f_is_integer])
def r_is_count : List D → Sto → R D := f_is_count.run E_is_count
theorem b_is_count (d0 : D) {S : Sto} {Q : D → Sto → Prop} {X : XP} : (r_is_count [d0] S).post Q X = (evalS E_is_count f_is_count.code [some d0] S).post { nx := fun _ S => Q .non S, rt := Q, ex := fun e _ S => X e S } := p_run rfl
theorem c_is_count_is_integer : E_is_count.fn "is_integer" = some r_is_integer := by kernel_rfl
def E_is_name : Ev := evOf (csts cs) (tabOf (csts cs) [f_is_count, f_is_integer])
def r_is_name : List D → Sto → R D := f_is_name.run E_is_name
theorem b_is_name (d0 : D) {S : Sto} {Q : D → Sto → Prop} {X : XP} : (r_is_name [d0] S).post Q X = (evalS E_is_name f_is_name.code [some d0, none] S).post { nx := fun _ S => Q .non S, rt := Q, ex := fun e _ S => X e S } := p_run rfl
theorem c_is_name_MAX_LETTERS : E_is_name.cst "MAX_LETTERS" = some (.int (8)) := by kernel_rfl
theorem c_is_name_ALPHABET : E_is_name.cst "ALPHABET" = some (.str "abcdefghijklmnopqrstuvwxyz") := by kernel_rfl
def E__law_dice : Ev := evOf (csts cs) (tabOf (csts cs) [f_is_name, f_is_count, f_is_integer])
def r__law_dice : List D → Sto → R D := f__law_dice.run E__law_dice
theorem b__law_dice (d0 d1 : D) {S : Sto} {Q : D → Sto → Prop} {X : XP} : (r__law_dice [d0, d1] S).post Q X = (evalS E__law_dice f__law_dice.code [some d0, some d1, none, none, none] S).post { nx := fun _ S => Q .non S, rt := Q, ex := fun e _ S => X e S } := p_run rfl
def E__law_roll : Ev := evOf (csts cs) (tabOf (csts cs) [f__law_dice, f_is_name, f_is_count, f_is_integer])
def r__law_roll : List D → Sto → R D := f__law_roll.run E__law_roll
theorem b__law_roll (d0 d1 : D) {S : Sto} {Q : D → Sto → Prop} {X : XP} : (r__law_roll [d0, d1] S).post Q X = (evalS E__law_roll f__law_roll.code [some d0, some d1, none, none, none] S).post { nx := fun _ S => Q .non S, rt := Q, ex := fun e _ S => X e S } := p_run rfl
def E__law_pick : Ev := evOf (csts cs) (tabOf (csts cs) [f__law_roll, f__law_dice, f_is_name, f_is_count, f_is_integer])
def r__law_pick : List D → Sto → R D := f__law_pick.run E__law_pick
theorem b__law_pick (d0 d1 : D) {S : Sto} {Q : D → Sto → Prop} {X : XP} : (r__law_pick [d0, d1] S).post Q X = (evalS E__law_pick f__law_pick.code [some d0, some d1] S).post { nx := fun _ S => Q .non S, rt := Q, ex := fun e _ S => X e S } := p_run rfl
theorem c__law_pick__law_roll : E__law_pick.fn "_law_roll" = some r__law_roll := by kernel_rfl
def E__law_strings : Ev := evOf (csts cs) (tabOf (csts cs) [f__law_pick, f__law_roll, f__law_dice, f_is_name, f_is_count, f_is_integer])
def r__law_strings : List D → Sto → R D := f__law_strings.run E__law_strings
theorem b__law_strings (d0 : D) {S : Sto} {Q : D → Sto → Prop} {X : XP} : (r__law_strings [d0] S).post Q X = (evalS E__law_strings f__law_strings.code [some d0, none, none, none, none, none, none, none, none, none, none] S).post { nx := fun _ S => Q .non S, rt := Q, ex := fun e _ S => X e S } := p_run rfl
theorem c__law_strings__law_pick : E__law_strings.fn "_law_pick" = some r__law_pick := by kernel_rfl
theorem c__law_strings__law_roll : E__law_strings.fn "_law_roll" = some r__law_roll := by kernel_rfl
def E__law_numbers : Ev := evOf (csts cs) (tabOf (csts cs) [f__law_strings, f__law_pick, f__law_roll, f__law_dice, f_is_name, f_is_count, f_is_integer])
def r__law_numbers : List D → Sto → R D := f__law_numbers.run E__law_numbers
theorem b__law_numbers (d0 : D) {S : Sto} {Q : D → Sto → Prop} {X : XP} : (r__law_numbers [d0] S).post Q X = (evalS E__law_numbers f__law_numbers.code [some d0, none, none, none, none, none] S).post { nx := fun _ S => Q .non S, rt := Q, ex := fun e _ S => X e S } := p_run rfl
theorem c__law_numbers__law_pick : E__law_numbers.fn "_law_pick" = some r__law_pick := by kernel_rfl
theorem c__law_numbers__law_roll : E__law_numbers.fn "_law_roll" = some r__law_roll := by kernel_rfl
def E__law_is_let : Ev := evOf (csts cs) (tabOf (csts cs) [f__law_numbers, f__law_strings, f__law_pick, f__law_roll, f__law_dice, f_is_name, f_is_count, f_is_integer])
def r__law_is_let : List D → Sto → R D := f__law_is_let.run E__law_is_let
theorem b__law_is_let (d0 : D) {S : Sto} {Q : D → Sto → Prop} {X : XP} : (r__law_is_let [d0] S).post Q X = (evalS E__law_is_let f__law_is_let.code [some d0] S).post { nx := fun _ S => Q .non S, rt := Q, ex := fun e _ S => X e S } := p_run rfl
def E_law : Ev := evOf (csts cs) (tabOf (csts cs) [f__law_is_let, f__law_numbers, f__law_strings, f__law_pick, f__law_roll, f__law_dice, f_is_name, f_is_count, f_is_integer])
def r_law : List D → Sto → R D := f_law.run E_law
theorem b_law (d0 : D) {S : Sto} {Q : D → Sto → Prop} {X : XP} : (r_law [d0] S).post Q X = (evalS E_law f_law.code [some d0, none, none, none, none, none, none, none] S).post { nx := fun _ S => Q .non S, rt := Q, ex := fun e _ S => X e S } := p_run rfl
theorem c_law__law_dice : E_law.fn "_law_dice" = some r__law_dice := by kernel_rfl
theorem c_law__law_strings : E_law.fn "_law_strings" = some r__law_strings := by kernel_rfl
theorem c_law__law_numbers : E_law.fn "_law_numbers" = some r__law_numbers := by kernel_rfl
theorem c_law_MAX_LETTERS : E_law.cst "MAX_LETTERS" = some (.int (8)) := by kernel_rfl
theorem c_law_MAX_FIGURES : E_law.cst "MAX_FIGURES" = some (.int (60)) := by kernel_rfl
theorem c_law__law_is_let : E_law.fn "_law_is_let" = some r__law_is_let := by kernel_rfl
theorem c_law_is_name : E_law.fn "is_name" = some r_is_name := by kernel_rfl
theorem c_law_is_integer : E_law.fn "is_integer" = some r_is_integer := by kernel_rfl
theorem c_law_is_count : E_law.fn "is_count" = some r_is_count := by kernel_rfl
/-- what the law computes -/
abbrev lawR : List D → Sto → R D := r_law
end Lk00

set_option maxHeartbeats 4000000
namespace Lk00
open PySem PySem.Spec L2 Itp
abbrev Rw : PySem.W.OpenRow := PySem.W.OpenLaw.row PySem.Challenge.rw_touchrows_k00_whole_names_and_numbers
abbrev hk : PySem.W.Hook := He.hookD 4 fa fn
def ob (s : PySem.W.SharedT) : He.AlD := He.obsDG 4 fa fn (HandSHeadRun.getT s)
theorem ob_eq (s : PySem.W.SharedT) : ob s = hk.obs s.abs := He.obsDG_eq (HandSHeadRun.getT_eq s)
def loose : List Str := ["MAX_LETTERS", "MAX_FIGURES", "ALPHABET", "LIMIT", "is_integer", "is_count", "is_name", "_law_dice", "_law_roll", "_law_pick", "_law_strings", "_law_numbers", "_law_is_let"]
theorem run (w : World) : HandSHeadRun.RunEq Rw (PySem.W.view Rw.prog [15]) hk ob 4000 loose w := by
  intro os
  kernel_rfl
theorem holds_of (ht : TrueLaw lawR 63) : PySem.Challenge.rw_touchrows_k00_whole_names_and_numbers.Holds := by
  open PySem.W PySem.Calls PyProof.Rows in
  w_on; o_law
  refine HandSHeadRun.head_any (r := Rw) (q := PySem.W.view Rw.prog [15]) (H := hk) (ob := ob) (M := 4000) (loose := loose) (d := HandSHeadRun.topDef Rw.prog 15) (kwd := []) ob_eq
    (by kernel_rfl) (fun s => by kernel_rfl) run (by kernel_rfl) (by kernel_rfl) (by kernel_rfl) (by rfl) (by first | assumption | decide +kernel) (by decide +kernel) ⟨rfl, rfl, rfl, rfl, rfl, by decide +kernel⟩ ?hw ?hc
  case hw => w_witness2
  case hc =>
    refine Itp.walk_ofG (l := PySem.Challenge.rw_touchrows_k00_whole_names_and_numbers) (n := 63) (j := defs.length) (x := "_law_script") rfl (by decide) (by kernel_rfl) ⟨rfl, by decide, by decide⟩ ?F
    intro w mg fad h Y G hmg0
    obtain ⟨K, KX, c⟩ := Y
    have hmg : mg f_law.name = some (.ref fad) := by
      have e : (HandSHeadRun.topDef Rw.prog 15).name = f_law.name := by kernel_rfl
      rw [← e]
      exact hmg0
    obtain ⟨fd, hb, hF⟩ := law_of (P := PySem.Challenge.rw_touchrows_k00_whole_names_and_numbers.prog) (w := w) KX G c all_ok rfl hmg (fun F s u => FunD.bindsA (ps := ["_law_script"]) F (fun _ _ _ _ _ _ us hl => match us, hl with | [_], _ => rfl) s [u] rfl)
    exact ⟨K, fd, lawR, KX, hb, ht, hF⟩
end Lk00

namespace Lk00
open PySem PySem.Spec L2 Itp
theorem dice_spec (ns : List Int) (i : Nat) (hi : i < 3) (S : Sto) : (r__law_dice [.scr ns, .int i] S).post (fun d S' => d = .ref S.length ∧ ∃ a b : Int, S' = S ++ [.lst [.int a, .int b, .int 0]]) noX := by
  rw [b__law_dice]
  simp only [f__law_dice, p_var, p_kint, p_kstr, p_kbl, p_knon, p_glo, p_ty, p_bin, p_un, p_cmp, p_chain, p_and, p_or, p_one, p_not, p_ife, p_tup, p_lst, p_dic, p_mkF, p_mkT, p_bi, p_me, p_ix, p_nil, p_cons, p_pnil, p_pcons, t_nil, t_not, t_and, t_or, t_one, t_tv, t_cmp, t_chain, i_range1, i_range2, i_over, i_overS, p_lc, s_asgLp, s_passp, s_brkp, s_contp, s_seqp, s_fseqp, s_asgp, s_aixp, s_parp, s_retp, s_ret0p, s_ifsp, s_forp, s_dropp, post_ok, post_if, post_bad, post_exc, asgG, asgGs, List.getElem?_cons_zero, List.getElem?_cons_succ, List.set_cons_zero, List.set_cons_succ, Option.some.injEq, exists_eq_left', exists_eq_left, D.int.injEq, D.str.injEq, D.bl.injEq, D.lst.injEq, D.ref.injEq, MO.lst.injEq, o_add, o_sub, o_mul, o_mod, o_div, o_pow, o_addS, o_mulS, o_addL, o_addRL, o_mulL, o_neg, m_eqI, m_neI, m_eqS, m_neS, m_eqB, m_neB, m_lt, m_le, m_gt, m_ge, m_inc, tr_bl, tr_int, tr_non, tr_lst, tr_tup, f_abs, f_int, f_intB, f_boolI, f_str, f_max, f_min, f_isin, y_non, y_bl, y_int, y_str, y_tup, y_lst, y_dct, isi_same, f_lenS, f_lenL, f_lenT, f_lenC, f_listL, f_listT, f_listR, f_all, f_any, f_repr, x_scr, x_str, x_lst, x_tup, x_ref, w_ref, h_append, h_extend, h_strip, it_ref, it_str, it_lst, mT_a, mT_e, mT_s, ov_l, ov_t]
  split
  · rename_i h
    have h : i < ns.length := by simpa using h
    refine ⟨_, at_lt h, by decide +kernel, by decide +kernel, by decide +kernel, by decide +kernel, by decide +kernel, by decide +kernel, by decide +kernel, by decide +kernel, lg2 (by omega) (by omega) (by decide) (by decide +kernel), lg2 (by decide) (by decide +kernel) (by omega) (by omega), lg2 (by decide) (by decide +kernel) (by split <;> decide) (by split <;> decide +kernel), (by show 3 ≤ lim; decide), trivial, _, _, rfl⟩
  · refine ⟨lg2 (by decide) (by decide +kernel) (by omega) (by omega), by decide +kernel, by decide +kernel, by decide +kernel, by decide +kernel, by decide +kernel, by decide +kernel, by decide +kernel, by decide +kernel, lg2 (by omega) (by omega) (by decide) (by decide +kernel), lg2 (by decide) (by decide +kernel) (by omega) (by omega), lg2 (by decide) (by decide +kernel) (by split <;> decide) (by split <;> decide +kernel), (by show 3 ≤ lim; decide), trivial, _, _, rfl⟩
theorem roll_spec (S : Sto) (n : Nat) (k : Nat) (hk : k < 1000) (h : Dc S n k) (t : Int) (ht : 0 < t) (hl : t.natAbs.log2 < 9000) : (r__law_roll [.ref n, .int t] S).post (fun d S' => ∃ r : Int, d = .int r ∧ 0 ≤ r ∧ r < t ∧ Dc S' n (k + 1) ∧ Sm S S' n) noX := by
  obtain ⟨a, b, c, hS, h0, h1⟩ := h
  have hn : n < S.length := (List.getElem?_eq_some_iff.mp hS).1
  rw [b__law_roll]
  simp only [f__law_roll, p_var, p_kint, p_kstr, p_kbl, p_knon, p_glo, p_ty, p_bin, p_un, p_cmp, p_chain, p_and, p_or, p_one, p_not, p_ife, p_tup, p_lst, p_dic, p_mkF, p_mkT, p_bi, p_me, p_ix, p_nil, p_cons, p_pnil, p_pcons, t_nil, t_not, t_and, t_or, t_one, t_tv, t_cmp, t_chain, i_range1, i_range2, i_over, i_overS, p_lc, s_asgLp, s_passp, s_brkp, s_contp, s_seqp, s_fseqp, s_asgp, s_aixp, s_parp, s_retp, s_ret0p, s_ifsp, s_forp, s_dropp, post_ok, post_if, post_bad, post_exc, asgG, asgGs, List.getElem?_cons_zero, List.getElem?_cons_succ, List.set_cons_zero, List.set_cons_succ, Option.some.injEq, exists_eq_left', exists_eq_left, D.int.injEq, D.str.injEq, D.bl.injEq, D.lst.injEq, D.ref.injEq, MO.lst.injEq, o_add, o_sub, o_mul, o_mod, o_div, o_pow, o_addS, o_mulS, o_addL, o_addRL, o_mulL, o_neg, m_eqI, m_neI, m_eqS, m_neS, m_eqB, m_neB, m_lt, m_le, m_gt, m_ge, m_inc, tr_bl, tr_int, tr_non, tr_lst, tr_tup, f_abs, f_int, f_intB, f_boolI, f_str, f_max, f_min, f_isin, y_non, y_bl, y_int, y_str, y_tup, y_lst, y_dct, isi_same, f_lenS, f_lenL, f_lenT, f_lenC, f_listL, f_listT, f_listR, f_all, f_any, f_repr, x_scr, x_str, x_lst, x_tup, x_ref, w_ref, h_append, h_extend, h_strip, it_ref, it_str, it_lst, mT_a, mT_e, mT_s, ov_l, ov_t, hS, a3_0, a3_1, a3_2, i3_0, i3_2, List.getElem?_set_self hn, List.set_set]
  split
  · refine ⟨ht, ⟨ht, hl⟩, Int.emod_nonneg _ (by omega), Int.emod_lt_of_pos _ ht, ⟨_, _, _, List.getElem?_set_self hn, h0, by omega⟩, Sm.set ..⟩
  · refine ⟨lg2 (by decide) (by decide +kernel) (by omega) (by omega), by decide, lg2 (by omega) (by omega) (by omega) (by omega), lg2 (by decide) (by decide +kernel) (by omega) (by omega), by decide, lg2 (by omega) (by omega) (by decide) (by decide +kernel), ⟨by decide, by decide +kernel⟩, ht, Int.emod_nonneg _ (by omega), Int.emod_lt_of_pos _ ht, ⟨_, _, _, List.getElem?_set_self hn, by omega, by omega⟩, Sm.set ..⟩
theorem pick_str (S : Sto) (n k : Nat) (hk : k < 1000) (h : Dc S n k) (x : Str) (h0 : 0 < x.length) (h1 : x.length < 1000) : (r__law_pick [.ref n, .str x] S).post (fun d S' => ∃ c, d = .str ⟨#[c]⟩ ∧ c ∈ x.cps.toList ∧ Dc S' n (k + 1) ∧ Sm S S' n) noX := by
  rw [b__law_pick]
  simp only [f__law_pick, p_call c__law_pick__law_roll, p_var, p_kint, p_kstr, p_kbl, p_knon, p_glo, p_ty, p_bin, p_un, p_cmp, p_chain, p_and, p_or, p_one, p_not, p_ife, p_tup, p_lst, p_dic, p_mkF, p_mkT, p_bi, p_me, p_ix, p_nil, p_cons, p_pnil, p_pcons, t_nil, t_not, t_and, t_or, t_one, t_tv, t_cmp, t_chain, i_range1, i_range2, i_over, i_overS, p_lc, s_asgLp, s_passp, s_brkp, s_contp, s_seqp, s_fseqp, s_asgp, s_aixp, s_parp, s_retp, s_ret0p, s_ifsp, s_forp, s_dropp, post_ok, post_if, post_bad, post_exc, asgG, asgGs, List.getElem?_cons_zero, List.getElem?_cons_succ, List.set_cons_zero, List.set_cons_succ, Option.some.injEq, exists_eq_left', exists_eq_left, D.int.injEq, D.str.injEq, D.bl.injEq, D.lst.injEq, D.ref.injEq, MO.lst.injEq, o_add, o_sub, o_mul, o_mod, o_div, o_pow, o_addS, o_mulS, o_addL, o_addRL, o_mulL, o_neg, m_eqI, m_neI, m_eqS, m_neS, m_eqB, m_neB, m_lt, m_le, m_gt, m_ge, m_inc, tr_bl, tr_int, tr_non, tr_lst, tr_tup, f_abs, f_int, f_intB, f_boolI, f_str, f_max, f_min, f_isin, y_non, y_bl, y_int, y_str, y_tup, y_lst, y_dct, isi_same, f_lenS, f_lenL, f_lenT, f_lenC, f_listL, f_listT, f_listR, f_all, f_any, f_repr, x_scr, x_str, x_lst, x_tup, x_ref, w_ref, h_append, h_extend, h_strip, it_ref, it_str, it_lst, mT_a, mT_e, mT_s, ov_l, ov_t]
  refine ⟨Nat.le_trans (Nat.le_of_lt h1) (by decide), (roll_spec S n k hk h x.length (by omega) (Nat.lt_trans (lg1 (by omega) (by omega)) (by decide))).to ?_⟩
  rintro _ S' ⟨r, rfl, r0, r1, hd, hs⟩
  simp only [p_var, p_kint, p_kstr, p_kbl, p_knon, p_glo, p_ty, p_bin, p_un, p_cmp, p_chain, p_and, p_or, p_one, p_not, p_ife, p_tup, p_lst, p_dic, p_mkF, p_mkT, p_bi, p_me, p_ix, p_nil, p_cons, p_pnil, p_pcons, t_nil, t_not, t_and, t_or, t_one, t_tv, t_cmp, t_chain, i_range1, i_range2, i_over, i_overS, p_lc, s_asgLp, s_passp, s_brkp, s_contp, s_seqp, s_fseqp, s_asgp, s_aixp, s_parp, s_retp, s_ret0p, s_ifsp, s_forp, s_dropp, post_ok, post_if, post_bad, post_exc, asgG, asgGs, List.getElem?_cons_zero, List.getElem?_cons_succ, List.set_cons_zero, List.set_cons_succ, Option.some.injEq, exists_eq_left', exists_eq_left, D.int.injEq, D.str.injEq, D.bl.injEq, D.lst.injEq, D.ref.injEq, MO.lst.injEq, o_add, o_sub, o_mul, o_mod, o_div, o_pow, o_addS, o_mulS, o_addL, o_addRL, o_mulL, o_neg, m_eqI, m_neI, m_eqS, m_neS, m_eqB, m_neB, m_lt, m_le, m_gt, m_ge, m_inc, tr_bl, tr_int, tr_non, tr_lst, tr_tup, f_abs, f_int, f_intB, f_boolI, f_str, f_max, f_min, f_isin, y_non, y_bl, y_int, y_str, y_tup, y_lst, y_dct, isi_same, f_lenS, f_lenL, f_lenT, f_lenC, f_listL, f_listT, f_listR, f_all, f_any, f_repr, x_scr, x_str, x_lst, x_tup, x_ref, w_ref, h_append, h_extend, h_strip, it_ref, it_str, it_lst, mT_a, mT_e, mT_s, ov_l, ov_t]
  obtain ⟨c, e, hc⟩ := at_in (xs := x.cps.toList) r0 (by simpa [Str.length] using r1)
  exact ⟨c, e, Nat.le_trans (Nat.le_of_lt h1) (by decide), c, rfl, hc, hd, hs⟩
theorem pick_lst (S : Sto) (n k : Nat) (hk : k < 1000) (h : Dc S n k) (xs : List D) (h0 : 0 < xs.length) (h1 : xs.length < 1000) : (r__law_pick [.ref n, .lst xs] S).post (fun d S' => d ∈ xs ∧ Dc S' n (k + 1) ∧ Sm S S' n) noX := by
  rw [b__law_pick]
  simp only [f__law_pick, p_call c__law_pick__law_roll, p_var, p_kint, p_kstr, p_kbl, p_knon, p_glo, p_ty, p_bin, p_un, p_cmp, p_chain, p_and, p_or, p_one, p_not, p_ife, p_tup, p_lst, p_dic, p_mkF, p_mkT, p_bi, p_me, p_ix, p_nil, p_cons, p_pnil, p_pcons, t_nil, t_not, t_and, t_or, t_one, t_tv, t_cmp, t_chain, i_range1, i_range2, i_over, i_overS, p_lc, s_asgLp, s_passp, s_brkp, s_contp, s_seqp, s_fseqp, s_asgp, s_aixp, s_parp, s_retp, s_ret0p, s_ifsp, s_forp, s_dropp, post_ok, post_if, post_bad, post_exc, asgG, asgGs, List.getElem?_cons_zero, List.getElem?_cons_succ, List.set_cons_zero, List.set_cons_succ, Option.some.injEq, exists_eq_left', exists_eq_left, D.int.injEq, D.str.injEq, D.bl.injEq, D.lst.injEq, D.ref.injEq, MO.lst.injEq, o_add, o_sub, o_mul, o_mod, o_div, o_pow, o_addS, o_mulS, o_addL, o_addRL, o_mulL, o_neg, m_eqI, m_neI, m_eqS, m_neS, m_eqB, m_neB, m_lt, m_le, m_gt, m_ge, m_inc, tr_bl, tr_int, tr_non, tr_lst, tr_tup, f_abs, f_int, f_intB, f_boolI, f_str, f_max, f_min, f_isin, y_non, y_bl, y_int, y_str, y_tup, y_lst, y_dct, isi_same, f_lenS, f_lenL, f_lenT, f_lenC, f_listL, f_listT, f_listR, f_all, f_any, f_repr, x_scr, x_str, x_lst, x_tup, x_ref, w_ref, h_append, h_extend, h_strip, it_ref, it_str, it_lst, mT_a, mT_e, mT_s, ov_l, ov_t]
  refine (roll_spec S n k hk h xs.length (by omega) (Nat.lt_trans (lg1 (by omega) (by omega)) (by decide))).to ?_
  rintro _ S' ⟨r, rfl, r0, r1, hd, hs⟩
  simp only [p_var, p_kint, p_kstr, p_kbl, p_knon, p_glo, p_ty, p_bin, p_un, p_cmp, p_chain, p_and, p_or, p_one, p_not, p_ife, p_tup, p_lst, p_dic, p_mkF, p_mkT, p_bi, p_me, p_ix, p_nil, p_cons, p_pnil, p_pcons, t_nil, t_not, t_and, t_or, t_one, t_tv, t_cmp, t_chain, i_range1, i_range2, i_over, i_overS, p_lc, s_asgLp, s_passp, s_brkp, s_contp, s_seqp, s_fseqp, s_asgp, s_aixp, s_parp, s_retp, s_ret0p, s_ifsp, s_forp, s_dropp, post_ok, post_if, post_bad, post_exc, asgG, asgGs, List.getElem?_cons_zero, List.getElem?_cons_succ, List.set_cons_zero, List.set_cons_succ, Option.some.injEq, exists_eq_left', exists_eq_left, D.int.injEq, D.str.injEq, D.bl.injEq, D.lst.injEq, D.ref.injEq, MO.lst.injEq, o_add, o_sub, o_mul, o_mod, o_div, o_pow, o_addS, o_mulS, o_addL, o_addRL, o_mulL, o_neg, m_eqI, m_neI, m_eqS, m_neS, m_eqB, m_neB, m_lt, m_le, m_gt, m_ge, m_inc, tr_bl, tr_int, tr_non, tr_lst, tr_tup, f_abs, f_int, f_intB, f_boolI, f_str, f_max, f_min, f_isin, y_non, y_bl, y_int, y_str, y_tup, y_lst, y_dct, isi_same, f_lenS, f_lenL, f_lenT, f_lenC, f_listL, f_listT, f_listR, f_all, f_any, f_repr, x_scr, x_str, x_lst, x_tup, x_ref, w_ref, h_append, h_extend, h_strip, it_ref, it_str, it_lst, mT_a, mT_e, mT_s, ov_l, ov_t]
  obtain ⟨c, e, hc⟩ := at_in (xs := xs) r0 r1
  exact ⟨c, e, hc, hd, hs⟩
def I2 (n m q : Nat) (odd t : D) (sg lay fs : List D) (b : Nat) (ds : List D) (G : Gam) (S : Sto) : Prop := ∃ ls g7, G = [some (.ref n), some odd, some (.lst sg), some (.lst lay), some (.ref m), some t, some (.ref q), g7, none, none, none] ∧ S[q]? = some (.lst ls) ∧ S[m]? = some (.lst fs) ∧ q ≠ m ∧ q ≠ n ∧ m ≠ n ∧ Dc S n 3 ∧ SL b ds ∧ SL (b + 1) ls ∧ ls.length + 3 * ds.length = 3 * lay.length
def catD (t : Str) : D → D
  | .str z => .str (t ++ z)
  | d => d
theorem strings_6 {n m q : Nat} {odd t : D} {sg lay fs : List D} {b : Nat} (hsg : SL 1 sg) (h3 : sg.length = 3) (hb : b < 40) (hlay : lay.length ≤ 243) {d : D} {ds : List D} {G : Gam} {S : Sto} (h : I2 n m q odd t sg lay fs b (d :: ds) G S) :
    ∃ G1, some (List.set G 7 (some d)) = some G1 ∧ (evalS E__law_strings b_strings_6 G1 S).post { nx := I2 n m q odd t sg lay fs b ds, ct := I2 n m q odd t sg lay fs b ds } := by
  obtain ⟨ls, g7, rfl, hq, hm, h1, h2, h4, hd, hs, hl, hc⟩ := h
  obtain ⟨z, rfl, hz⟩ := hs.head
  refine ⟨_, rfl, ?_⟩
  simp only [b_strings_6, p_var, p_kint, p_kstr, p_kbl, p_knon, p_glo, p_ty, p_bin, p_un, p_cmp, p_chain, p_and, p_or, p_one, p_not, p_ife, p_tup, p_lst, p_dic, p_mkF, p_mkT, p_bi, p_me, p_ix, p_nil, p_cons, p_pnil, p_pcons, t_nil, t_not, t_and, t_or, t_one, t_tv, t_cmp, t_chain, i_range1, i_range2, i_over, i_overS, p_lc, s_asgLp, s_passp, s_brkp, s_contp, s_seqp, s_fseqp, s_asgp, s_aixp, s_parp, s_retp, s_ret0p, s_ifsp, s_forp, s_dropp, post_ok, post_if, post_bad, post_exc, asgG, asgGs, List.getElem?_cons_zero, List.getElem?_cons_succ, List.set_cons_zero, List.set_cons_succ, Option.some.injEq, exists_eq_left', exists_eq_left, D.int.injEq, D.str.injEq, D.bl.injEq, D.lst.injEq, D.ref.injEq, MO.lst.injEq, o_add, o_sub, o_mul, o_mod, o_div, o_pow, o_addS, o_mulS, o_addL, o_addRL, o_mulL, o_neg, m_eqI, m_neI, m_eqS, m_neS, m_eqB, m_neB, m_lt, m_le, m_gt, m_ge, m_inc, tr_bl, tr_int, tr_non, tr_lst, tr_tup, f_abs, f_int, f_intB, f_boolI, f_str, f_max, f_min, f_isin, y_non, y_bl, y_int, y_str, y_tup, y_lst, y_dct, isi_same, f_lenS, f_lenL, f_lenT, f_lenC, f_listL, f_listT, f_listR, f_all, f_any, f_repr, x_scr, x_str, x_lst, x_tup, x_ref, w_ref, h_append, h_extend, h_strip, it_ref, it_str, it_lst, mT_a, mT_e, mT_s, ov_l, ov_t]
  refine ⟨⟨_, hq⟩, (lc_map (P := fun d => ∃ y : Str, d = .str y ∧ y.length ≤ 1) (f := catD z) ?_ hsg (by rw [h3]; decide)).to ?_⟩
  · rintro _ S ⟨y, rfl, hy⟩
    simp only [p_turn, wipeG, List.map_cons, List.map_nil, p_var, p_kint, p_kstr, p_kbl, p_knon, p_glo, p_ty, p_bin, p_un, p_cmp, p_chain, p_and, p_or, p_one, p_not, p_ife, p_tup, p_lst, p_dic, p_mkF, p_mkT, p_bi, p_me, p_ix, p_nil, p_cons, p_pnil, p_pcons, t_nil, t_not, t_and, t_or, t_one, t_tv, t_cmp, t_chain, i_range1, i_range2, i_over, i_overS, p_lc, s_asgLp, s_passp, s_brkp, s_contp, s_seqp, s_fseqp, s_asgp, s_aixp, s_parp, s_retp, s_ret0p, s_ifsp, s_forp, s_dropp, post_ok, post_if, post_bad, post_exc, asgG, asgGs, List.getElem?_cons_zero, List.getElem?_cons_succ, List.set_cons_zero, List.set_cons_succ, Option.some.injEq, exists_eq_left', exists_eq_left, D.int.injEq, D.str.injEq, D.bl.injEq, D.lst.injEq, D.ref.injEq, MO.lst.injEq, o_add, o_sub, o_mul, o_mod, o_div, o_pow, o_addS, o_mulS, o_addL, o_addRL, o_mulL, o_neg, m_eqI, m_neI, m_eqS, m_neS, m_eqB, m_neB, m_lt, m_le, m_gt, m_ge, m_inc, tr_bl, tr_int, tr_non, tr_lst, tr_tup, f_abs, f_int, f_intB, f_boolI, f_str, f_max, f_min, f_isin, y_non, y_bl, y_int, y_str, y_tup, y_lst, y_dct, isi_same, f_lenS, f_lenL, f_lenT, f_lenC, f_listL, f_listT, f_listR, f_all, f_any, f_repr, x_scr, x_str, x_lst, x_tup, x_ref, w_ref, h_append, h_extend, h_strip, it_ref, it_str, it_lst, mT_a, mT_e, mT_s, ov_l, ov_t]
    exact ⟨Nat.le_trans (Nat.add_le_add hz hy) (Nat.le_trans (Nat.add_le_add_right (Nat.le_of_lt hb) 1) (by decide)), trivial, rfl⟩
  · rintro _ _ ⟨rfl, rfl⟩
    simp only [List.length_cons] at hc
    have e : (sg.map (catD z)).length = 3 := by rw [List.length_map]; exact h3
    refine ⟨ls, hq, Nat.le_trans (show _ ≤ 729 by omega) (by decide), _, _, rfl, st_set hq, st_ne hm (Ne.symm h1), h1, h2, h4, hd.ne h2, hs.tail, hl.app ?_, ?_⟩
    · intro y hy
      obtain ⟨x, hx, rfl⟩ := List.mem_map.mp hy
      obtain ⟨w, rfl, hw⟩ := hsg x hx
      refine ⟨z ++ w, rfl, ?_⟩
      rw [Str.length_append]
      omega
    · rw [List.length_append, e]
      omega
def I1 (n : Nat) (odd : D) (sg : List D) (ds : List D) (G : Gam) (S : Sto) : Prop := ∃ lay fs m g5 g6 g7, G = [some (.ref n), some odd, some (.lst sg), some (.lst lay), some (.ref m), g5, g6, g7, none, none, none] ∧ S[m]? = some (.lst fs) ∧ m ≠ n ∧ Dc S n 3 ∧ ds.length ≤ 5 ∧ SL (5 - ds.length) lay ∧ lay.length * 3 ^ ds.length ≤ 243 ∧ SL 40 fs ∧ fs.length + 243 * ds.length ≤ 2000
theorem strings_7 {n : Nat} {odd : D} {sg : List D} (hsg : SL 1 sg) (h3 : sg.length = 3) {d : D} {ds : List D} {G : Gam} {S : Sto} (h : I1 n odd sg (d :: ds) G S) :
    ∃ G1, some (List.set G 5 (some d)) = some G1 ∧ (evalS E__law_strings b_strings_7 G1 S).post { nx := I1 n odd sg ds, ct := I1 n odd sg ds } := by
  obtain ⟨lay, fs, m, g5, g6, g7, rfl, hm, h1, hd, h5, hl, hc, hf, hn⟩ := h
  refine ⟨_, rfl, ?_⟩
  simp only [List.length_cons] at h5 hl hc hn
  have h243 : lay.length * 3 ≤ 243 := Nat.le_trans (Nat.mul_le_mul_left _ (Nat.le_self_pow (Nat.succ_ne_zero _) 3)) hc
  have hml : m < S.length := st_lt hm
  simp only [b_strings_7, p_var, p_kint, p_kstr, p_kbl, p_knon, p_glo, p_ty, p_bin, p_un, p_cmp, p_chain, p_and, p_or, p_one, p_not, p_ife, p_tup, p_lst, p_dic, p_mkF, p_mkT, p_bi, p_me, p_ix, p_nil, p_cons, p_pnil, p_pcons, t_nil, t_not, t_and, t_or, t_one, t_tv, t_cmp, t_chain, i_range1, i_range2, i_over, i_overS, p_lc, s_asgLp, s_passp, s_brkp, s_contp, s_seqp, s_fseqp, s_asgp, s_aixp, s_parp, s_retp, s_ret0p, s_ifsp, s_forp, s_dropp, post_ok, post_if, post_bad, post_exc, asgG, asgGs, List.getElem?_cons_zero, List.getElem?_cons_succ, List.set_cons_zero, List.set_cons_succ, Option.some.injEq, exists_eq_left', exists_eq_left, D.int.injEq, D.str.injEq, D.bl.injEq, D.lst.injEq, D.ref.injEq, MO.lst.injEq, o_add, o_sub, o_mul, o_mod, o_div, o_pow, o_addS, o_mulS, o_addL, o_addRL, o_mulL, o_neg, m_eqI, m_neI, m_eqS, m_neS, m_eqB, m_neB, m_lt, m_le, m_gt, m_ge, m_inc, tr_bl, tr_int, tr_non, tr_lst, tr_tup, f_abs, f_int, f_intB, f_boolI, f_str, f_max, f_min, f_isin, y_non, y_bl, y_int, y_str, y_tup, y_lst, y_dct, isi_same, f_lenS, f_lenL, f_lenT, f_lenC, f_listL, f_listT, f_listR, f_all, f_any, f_repr, x_scr, x_str, x_lst, x_tup, x_ref, w_ref, h_append, h_extend, h_strip, it_ref, it_str, it_lst, mT_a, mT_e, mT_s, ov_l, ov_t]
  refine ⟨by decide, for_post (I2 n m S.length odd d sg lay fs (5 - (ds.length + 1))) ?_ (fun d ds G S h => ?_) _ _ _ ⟨[], _, rfl, st_new, st_app hm, by omega, by have := hd.lt; omega, h1, hd.app, hl, SL.nil, by simp⟩⟩
  · rintro G S' ⟨ls, g7', rfl, hq, hm', k1, k2, k3, hd', _, hls, hlc⟩
    simp only [k_strings_5, p_var, p_kint, p_kstr, p_kbl, p_knon, p_glo, p_ty, p_bin, p_un, p_cmp, p_chain, p_and, p_or, p_one, p_not, p_ife, p_tup, p_lst, p_dic, p_mkF, p_mkT, p_bi, p_me, p_ix, p_nil, p_cons, p_pnil, p_pcons, t_nil, t_not, t_and, t_or, t_one, t_tv, t_cmp, t_chain, i_range1, i_range2, i_over, i_overS, p_lc, s_asgLp, s_passp, s_brkp, s_contp, s_seqp, s_fseqp, s_asgp, s_aixp, s_parp, s_retp, s_ret0p, s_ifsp, s_forp, s_dropp, post_ok, post_if, post_bad, post_exc, asgG, asgGs, List.getElem?_cons_zero, List.getElem?_cons_succ, List.set_cons_zero, List.set_cons_succ, Option.some.injEq, exists_eq_left', exists_eq_left, D.int.injEq, D.str.injEq, D.bl.injEq, D.lst.injEq, D.ref.injEq, MO.lst.injEq, o_add, o_sub, o_mul, o_mod, o_div, o_pow, o_addS, o_mulS, o_addL, o_addRL, o_mulL, o_neg, m_eqI, m_neI, m_eqS, m_neS, m_eqB, m_neB, m_lt, m_le, m_gt, m_ge, m_inc, tr_bl, tr_int, tr_non, tr_lst, tr_tup, f_abs, f_int, f_intB, f_boolI, f_str, f_max, f_min, f_isin, y_non, y_bl, y_int, y_str, y_tup, y_lst, y_dct, isi_same, f_lenS, f_lenL, f_lenT, f_lenC, f_listL, f_listT, f_listR, f_all, f_any, f_repr, x_scr, x_str, x_lst, x_tup, x_ref, w_ref, h_append, h_extend, h_strip, it_ref, it_str, it_lst, mT_a, mT_e, mT_s, ov_l, ov_t]
    simp only [List.length_nil, Nat.mul_zero, Nat.add_zero] at hlc
    refine ⟨ls, hq, fs, hm', Nat.le_trans (show _ ≤ 2243 by omega) (by decide), _, _, _, _, _, _, rfl, st_new, ?_, hd'.app, by omega, hls.mono (by omega), ?_, hf.app (hls.mono (by omega)), ?_⟩
    · have := hd'.lt
      omega
    · rw [hlc]
      rw [Nat.pow_succ] at hc
      calc 3 * lay.length * 3 ^ ds.length = lay.length * (3 ^ ds.length * 3) := by rw [Nat.mul_comm 3, Nat.mul_assoc, Nat.mul_comm 3]
        _ ≤ 243 := hc
    · rw [List.length_append]
      omega
  · obtain ⟨G1, e, q⟩ := strings_6 hsg h3 (by omega) (by omega) h
    exact ⟨G1, e, q.mono (fun _ _ z => z) (fun _ _ z => z.elim) (fun _ _ z => z.elim) (fun _ _ z => z) (fun _ _ _ z => z.elim)⟩
def I3 (n : Nat) (odd : D) (a b c : Str) (ds : List D) (G : Gam) (S : Sto) : Prop := ∃ m fs g3 g5 g6 g7 g9 g10, G = [some (.ref n), some odd, some (.lst [.str a, .str b, .str c]), g3, some (.ref m), g5, g6, g7, none, g9, g10] ∧ S[m]? = some (.lst fs) ∧ m ≠ n ∧ Dc S n (11 - 2 * ds.length) ∧ ds.length ≤ 4 ∧ (∀ y ∈ ds, ∃ i : Int, y = .int i ∧ 1 ≤ i ∧ i ≤ 40) ∧ SL 40 fs ∧ fs.length + ds.length ≤ 3000
theorem strings_3 {n : Nat} {odd : D} {a b c : Str} (ha : a.length = 1) (hb : b.length = 1) (hc : c.length = 1) {d : D} {ds : List D} {G : Gam} {S : Sto} (h : I3 n odd a b c (d :: ds) G S) :
    ∃ G1, some (List.set G 9 (some d)) = some G1 ∧ (evalS E__law_strings b_strings_3 G1 S).post { nx := I3 n odd a b c ds, ct := I3 n odd a b c ds } := by
  obtain ⟨m, fs, g3, g5, g6, g7, g9, g10, rfl, hm, h1, hd, h4, hi, hf, hn⟩ := h
  refine ⟨_, rfl, ?_⟩
  obtain ⟨i, rfl, i1, i2⟩ := hi d (List.mem_cons_self ..)
  simp only [List.length_cons] at h4 hd hn
  simp only [b_strings_3, p_call c__law_strings__law_roll, p_var, p_kint, p_kstr, p_kbl, p_knon, p_glo, p_ty, p_bin, p_un, p_cmp, p_chain, p_and, p_or, p_one, p_not, p_ife, p_tup, p_lst, p_dic, p_mkF, p_mkT, p_bi, p_me, p_ix, p_nil, p_cons, p_pnil, p_pcons, t_nil, t_not, t_and, t_or, t_one, t_tv, t_cmp, t_chain, i_range1, i_range2, i_over, i_overS, p_lc, s_asgLp, s_passp, s_brkp, s_contp, s_seqp, s_fseqp, s_asgp, s_aixp, s_parp, s_retp, s_ret0p, s_ifsp, s_forp, s_dropp, post_ok, post_if, post_bad, post_exc, asgG, asgGs, List.getElem?_cons_zero, List.getElem?_cons_succ, List.set_cons_zero, List.set_cons_succ, Option.some.injEq, exists_eq_left', exists_eq_left, D.int.injEq, D.str.injEq, D.bl.injEq, D.lst.injEq, D.ref.injEq, MO.lst.injEq, o_add, o_sub, o_mul, o_mod, o_div, o_pow, o_addS, o_mulS, o_addL, o_addRL, o_mulL, o_neg, m_eqI, m_neI, m_eqS, m_neS, m_eqB, m_neB, m_lt, m_le, m_gt, m_ge, m_inc, tr_bl, tr_int, tr_non, tr_lst, tr_tup, f_abs, f_int, f_intB, f_boolI, f_str, f_max, f_min, f_isin, y_non, y_bl, y_int, y_str, y_tup, y_lst, y_dct, isi_same, f_lenS, f_lenL, f_lenT, f_lenC, f_listL, f_listT, f_listR, f_all, f_any, f_repr, x_scr, x_str, x_lst, x_tup, x_ref, w_ref, h_append, h_extend, h_strip, it_ref, it_str, it_lst, mT_a, mT_e, mT_s, ov_l, ov_t]
  refine (roll_spec S n _ (by omega) hd i (by omega) (Nat.lt_trans (lg1 (by omega) (by omega)) (by decide))).to ?_
  rintro _ S1 ⟨r, rfl, r0, r1, hd1, hs1⟩
  simp only [k_strings_2, p_call c__law_strings__law_pick, p_var, p_kint, p_kstr, p_kbl, p_knon, p_glo, p_ty, p_bin, p_un, p_cmp, p_chain, p_and, p_or, p_one, p_not, p_ife, p_tup, p_lst, p_dic, p_mkF, p_mkT, p_bi, p_me, p_ix, p_nil, p_cons, p_pnil, p_pcons, t_nil, t_not, t_and, t_or, t_one, t_tv, t_cmp, t_chain, i_range1, i_range2, i_over, i_overS, p_lc, s_asgLp, s_passp, s_brkp, s_contp, s_seqp, s_fseqp, s_asgp, s_aixp, s_parp, s_retp, s_ret0p, s_ifsp, s_forp, s_dropp, post_ok, post_if, post_bad, post_exc, asgG, asgGs, List.getElem?_cons_zero, List.getElem?_cons_succ, List.set_cons_zero, List.set_cons_succ, Option.some.injEq, exists_eq_left', exists_eq_left, D.int.injEq, D.str.injEq, D.bl.injEq, D.lst.injEq, D.ref.injEq, MO.lst.injEq, o_add, o_sub, o_mul, o_mod, o_div, o_pow, o_addS, o_mulS, o_addL, o_addRL, o_mulL, o_neg, m_eqI, m_neI, m_eqS, m_neS, m_eqB, m_neB, m_lt, m_le, m_gt, m_ge, m_inc, tr_bl, tr_int, tr_non, tr_lst, tr_tup, f_abs, f_int, f_intB, f_boolI, f_str, f_max, f_min, f_isin, y_non, y_bl, y_int, y_str, y_tup, y_lst, y_dct, isi_same, f_lenS, f_lenL, f_lenT, f_lenC, f_listL, f_listT, f_listR, f_all, f_any, f_repr, x_scr, x_str, x_lst, x_tup, x_ref, w_ref, h_append, h_extend, h_strip, it_ref, it_str, it_lst, mT_a, mT_e, mT_s, ov_l, ov_t, a3_0]
  refine ⟨⟨fs, hs1.get hm h1⟩, ⟨r0, by omega, by omega⟩, (pick_lst S1 n _ (by omega) hd1 [.str a, .str b, .str c] (by show 0 < 3; decide) (by show 3 < 1000; decide)).to ?_⟩
  rintro d S2 ⟨hdm, hd2, hs2⟩
  have : ∃ w : Str, d = .str w ∧ w.length = 1 := by
    simp at hdm
    rcases hdm with rfl | rfl | rfl
    · exact ⟨a, rfl, ha⟩
    · exact ⟨b, rfl, hb⟩
    · exact ⟨c, rfl, hc⟩
  obtain ⟨w, rfl, hw⟩ := this
  have hm2 := hs2.get (hs1.get hm h1) h1
  have l1 := PyProof.Rows.len_mul_k1 (n := r) ha
  have l2 := PyProof.Rows.len_mul_k1 (n := i - 1 - r) ha
  rw [if_neg (by omega)] at l1 l2
  have tot : (Txt.mul a r ++ w ++ Txt.mul a (i - 1 - r)).length ≤ 40 := by
    rw [Str.length_append, Str.length_append]
    omega
  simp only [Str.length_append] at tot
  simp only [p_var, p_kint, p_kstr, p_kbl, p_knon, p_glo, p_ty, p_bin, p_un, p_cmp, p_chain, p_and, p_or, p_one, p_not, p_ife, p_tup, p_lst, p_dic, p_mkF, p_mkT, p_bi, p_me, p_ix, p_nil, p_cons, p_pnil, p_pcons, t_nil, t_not, t_and, t_or, t_one, t_tv, t_cmp, t_chain, i_range1, i_range2, i_over, i_overS, p_lc, s_asgLp, s_passp, s_brkp, s_contp, s_seqp, s_fseqp, s_asgp, s_aixp, s_parp, s_retp, s_ret0p, s_ifsp, s_forp, s_dropp, post_ok, post_if, post_bad, post_exc, asgG, asgGs, List.getElem?_cons_zero, List.getElem?_cons_succ, List.set_cons_zero, List.set_cons_succ, Option.some.injEq, exists_eq_left', exists_eq_left, D.int.injEq, D.str.injEq, D.bl.injEq, D.lst.injEq, D.ref.injEq, MO.lst.injEq, o_add, o_sub, o_mul, o_mod, o_div, o_pow, o_addS, o_mulS, o_addL, o_addRL, o_mulL, o_neg, m_eqI, m_neI, m_eqS, m_neS, m_eqB, m_neB, m_lt, m_le, m_gt, m_ge, m_inc, tr_bl, tr_int, tr_non, tr_lst, tr_tup, f_abs, f_int, f_intB, f_boolI, f_str, f_max, f_min, f_isin, y_non, y_bl, y_int, y_str, y_tup, y_lst, y_dct, isi_same, f_lenS, f_lenL, f_lenT, f_lenC, f_listL, f_listT, f_listR, f_all, f_any, f_repr, x_scr, x_str, x_lst, x_tup, x_ref, w_ref, h_append, h_extend, h_strip, it_ref, it_str, it_lst, mT_a, mT_e, mT_s, ov_l, ov_t, Str.length_append]
  have hlim : (40 : Nat) ≤ lim := by decide
  refine ⟨by omega, ⟨by omega, by omega, by omega⟩, by omega, fs, hm2, Nat.lt_of_le_of_lt (show _ ≤ 3000 by omega) (by decide), _, _, _, _, _, _, _, _, rfl, st_set hm2, h1, (hd2.ne h1).le (by omega), by omega, fun y hy => hi y (List.mem_cons_of_mem _ hy), hf.app (SL.one ?_), ?_⟩
  · rw [Str.length_append, Str.length_append]
    omega
  · rw [List.length_append]
    simp only [List.length_cons, List.length_nil]
    omega
theorem strings_spec (S : Sto) (n : Nat) (h : Dc S n 0) : (r__law_strings [.ref n] S).post (fun d S' => ∃ L, d = .lst L ∧ SL 40 L ∧ Dc S' n 11) noX := by
  rw [b__law_strings]
  simp only [f__law_strings, p_call c__law_strings__law_pick, p_var, p_kint, p_kstr, p_kbl, p_knon, p_glo, p_ty, p_bin, p_un, p_cmp, p_chain, p_and, p_or, p_one, p_not, p_ife, p_tup, p_lst, p_dic, p_mkF, p_mkT, p_bi, p_me, p_ix, p_nil, p_cons, p_pnil, p_pcons, t_nil, t_not, t_and, t_or, t_one, t_tv, t_cmp, t_chain, i_range1, i_range2, i_over, i_overS, p_lc, s_asgLp, s_passp, s_brkp, s_contp, s_seqp, s_fseqp, s_asgp, s_aixp, s_parp, s_retp, s_ret0p, s_ifsp, s_forp, s_dropp, post_ok, post_if, post_bad, post_exc, asgG, asgGs, List.getElem?_cons_zero, List.getElem?_cons_succ, List.set_cons_zero, List.set_cons_succ, Option.some.injEq, exists_eq_left', exists_eq_left, D.int.injEq, D.str.injEq, D.bl.injEq, D.lst.injEq, D.ref.injEq, MO.lst.injEq, o_add, o_sub, o_mul, o_mod, o_div, o_pow, o_addS, o_mulS, o_addL, o_addRL, o_mulL, o_neg, m_eqI, m_neI, m_eqS, m_neS, m_eqB, m_neB, m_lt, m_le, m_gt, m_ge, m_inc, tr_bl, tr_int, tr_non, tr_lst, tr_tup, f_abs, f_int, f_intB, f_boolI, f_str, f_max, f_min, f_isin, y_non, y_bl, y_int, y_str, y_tup, y_lst, y_dct, isi_same, f_lenS, f_lenL, f_lenT, f_lenC, f_listL, f_listT, f_listR, f_all, f_any, f_repr, x_scr, x_str, x_lst, x_tup, x_ref, w_ref, h_append, h_extend, h_strip, it_ref, it_str, it_lst, mT_a, mT_e, mT_s, ov_l, ov_t]
  refine (pick_str S n 0 (by decide) h _ (by decide +kernel) (by decide +kernel)).to ?_
  rintro _ S1 ⟨c1, rfl, _, hd1, hs1⟩
  refine (pick_str S1 n 1 (by decide) hd1 _ (by decide +kernel) (by decide +kernel)).to ?_
  rintro _ S2 ⟨c2, rfl, _, hd2, hs2⟩
  refine ⟨by decide +kernel, (pick_str S2 n 2 (by decide) hd2 _ (by decide +kernel) (by decide +kernel)).to ?_⟩
  rintro _ S3 ⟨c3, rfl, _, hd3, hs3⟩
  refine ⟨by show 3 ≤ lim; decide, ?_⟩
  simp only [k_strings_8, p_var, p_kint, p_kstr, p_kbl, p_knon, p_glo, p_ty, p_bin, p_un, p_cmp, p_chain, p_and, p_or, p_one, p_not, p_ife, p_tup, p_lst, p_dic, p_mkF, p_mkT, p_bi, p_me, p_ix, p_nil, p_cons, p_pnil, p_pcons, t_nil, t_not, t_and, t_or, t_one, t_tv, t_cmp, t_chain, i_range1, i_range2, i_over, i_overS, p_lc, s_asgLp, s_passp, s_brkp, s_contp, s_seqp, s_fseqp, s_asgp, s_aixp, s_parp, s_retp, s_ret0p, s_ifsp, s_forp, s_dropp, post_ok, post_if, post_bad, post_exc, asgG, asgGs, List.getElem?_cons_zero, List.getElem?_cons_succ, List.set_cons_zero, List.set_cons_succ, Option.some.injEq, exists_eq_left', exists_eq_left, D.int.injEq, D.str.injEq, D.bl.injEq, D.lst.injEq, D.ref.injEq, MO.lst.injEq, o_add, o_sub, o_mul, o_mod, o_div, o_pow, o_addS, o_mulS, o_addL, o_addRL, o_mulL, o_neg, m_eqI, m_neI, m_eqS, m_neS, m_eqB, m_neB, m_lt, m_le, m_gt, m_ge, m_inc, tr_bl, tr_int, tr_non, tr_lst, tr_tup, f_abs, f_int, f_intB, f_boolI, f_str, f_max, f_min, f_isin, y_non, y_bl, y_int, y_str, y_tup, y_lst, y_dct, isi_same, f_lenS, f_lenL, f_lenT, f_lenC, f_listL, f_listT, f_listR, f_all, f_any, f_repr, x_scr, x_str, x_lst, x_tup, x_ref, w_ref, h_append, h_extend, h_strip, it_ref, it_str, it_lst, mT_a, mT_e, mT_s, ov_l, ov_t]
  have hsg : SL 1 [.str ⟨#[c1]⟩, .str ⟨#[c2]⟩, .str ⟨#[c3]⟩] := fun y hy => by
    simp at hy
    rcases hy with rfl | rfl | rfl
    · exact ⟨_, rfl, Nat.le_refl 1⟩
    · exact ⟨_, rfl, Nat.le_refl 1⟩
    · exact ⟨_, rfl, Nat.le_refl 1⟩
  refine ⟨by decide, by decide, by decide, for_post (I1 n _ [.str ⟨#[c1]⟩, .str ⟨#[c2]⟩, .str ⟨#[c3]⟩]) ?_ (fun d ds G S h => ?_) _ _ _ ⟨_, _, _, _, _, _, rfl, st_new, ?_, hd3.app, by decide, SL.one (by decide), by decide, SL.one (by decide), by decide⟩⟩
  · rintro G S' ⟨lay, fs, m, g5, g6, g7, rfl, hm, h1, hd, _, _, _, hf, hn⟩
    simp only [k_strings_4, p_var, p_kint, p_kstr, p_kbl, p_knon, p_glo, p_ty, p_bin, p_un, p_cmp, p_chain, p_and, p_or, p_one, p_not, p_ife, p_tup, p_lst, p_dic, p_mkF, p_mkT, p_bi, p_me, p_ix, p_nil, p_cons, p_pnil, p_pcons, t_nil, t_not, t_and, t_or, t_one, t_tv, t_cmp, t_chain, i_range1, i_range2, i_over, i_overS, p_lc, s_asgLp, s_passp, s_brkp, s_contp, s_seqp, s_fseqp, s_asgp, s_aixp, s_parp, s_retp, s_ret0p, s_ifsp, s_forp, s_dropp, post_ok, post_if, post_bad, post_exc, asgG, asgGs, List.getElem?_cons_zero, List.getElem?_cons_succ, List.set_cons_zero, List.set_cons_succ, Option.some.injEq, exists_eq_left', exists_eq_left, D.int.injEq, D.str.injEq, D.bl.injEq, D.lst.injEq, D.ref.injEq, MO.lst.injEq, o_add, o_sub, o_mul, o_mod, o_div, o_pow, o_addS, o_mulS, o_addL, o_addRL, o_mulL, o_neg, m_eqI, m_neI, m_eqS, m_neS, m_eqB, m_neB, m_lt, m_le, m_gt, m_ge, m_inc, tr_bl, tr_int, tr_non, tr_lst, tr_tup, f_abs, f_int, f_intB, f_boolI, f_str, f_max, f_min, f_isin, y_non, y_bl, y_int, y_str, y_tup, y_lst, y_dct, isi_same, f_lenS, f_lenL, f_lenT, f_lenC, f_listL, f_listT, f_listR, f_all, f_any, f_repr, x_scr, x_str, x_lst, x_tup, x_ref, w_ref, h_append, h_extend, h_strip, it_ref, it_str, it_lst, mT_a, mT_e, mT_s, ov_l, ov_t]
    refine ⟨by decide, for_post (I3 n _ _ _ _) ?_ (fun d ds G S h => ?_) _ _ _ ⟨_, _, _, _, _, _, _, _, rfl, hm, h1, hd, by decide, ?_, hf, ?_⟩⟩
    · rintro G S'' ⟨m', fs', g3, g5, g6, g7, g9, g10, rfl, hm', h1', hd', _, _, hf', _⟩
      simp only [k_strings_1, p_var, p_kint, p_kstr, p_kbl, p_knon, p_glo, p_ty, p_bin, p_un, p_cmp, p_chain, p_and, p_or, p_one, p_not, p_ife, p_tup, p_lst, p_dic, p_mkF, p_mkT, p_bi, p_me, p_ix, p_nil, p_cons, p_pnil, p_pcons, t_nil, t_not, t_and, t_or, t_one, t_tv, t_cmp, t_chain, i_range1, i_range2, i_over, i_overS, p_lc, s_asgLp, s_passp, s_brkp, s_contp, s_seqp, s_fseqp, s_asgp, s_aixp, s_parp, s_retp, s_ret0p, s_ifsp, s_forp, s_dropp, post_ok, post_if, post_bad, post_exc, asgG, asgGs, List.getElem?_cons_zero, List.getElem?_cons_succ, List.set_cons_zero, List.set_cons_succ, Option.some.injEq, exists_eq_left', exists_eq_left, D.int.injEq, D.str.injEq, D.bl.injEq, D.lst.injEq, D.ref.injEq, MO.lst.injEq, o_add, o_sub, o_mul, o_mod, o_div, o_pow, o_addS, o_mulS, o_addL, o_addRL, o_mulL, o_neg, m_eqI, m_neI, m_eqS, m_neS, m_eqB, m_neB, m_lt, m_le, m_gt, m_ge, m_inc, tr_bl, tr_int, tr_non, tr_lst, tr_tup, f_abs, f_int, f_intB, f_boolI, f_str, f_max, f_min, f_isin, y_non, y_bl, y_int, y_str, y_tup, y_lst, y_dct, isi_same, f_lenS, f_lenL, f_lenT, f_lenC, f_listL, f_listT, f_listR, f_all, f_any, f_repr, x_scr, x_str, x_lst, x_tup, x_ref, w_ref, h_append, h_extend, h_strip, it_ref, it_str, it_lst, mT_a, mT_e, mT_s, ov_l, ov_t]
      exact ⟨_, _, rfl, hm', hf', hd'.ne h1'⟩
    · obtain ⟨G1, e, q⟩ := strings_3 rfl rfl rfl h
      exact ⟨G1, e, q.mono (fun _ _ z => z) (fun _ _ z => z.elim) (fun _ _ z => z.elim) (fun _ _ z => z) (fun _ _ _ z => z.elim)⟩
    · intro y hy
      simp at hy
      rcases hy with rfl | rfl | rfl | rfl
      · exact ⟨_, rfl, by decide, by decide⟩
      · exact ⟨_, rfl, by decide, by decide⟩
      · exact ⟨_, rfl, by decide, by decide⟩
      · exact ⟨_, rfl, by decide, by decide⟩
    · simp only [List.length_cons, List.length_nil] at hn ⊢
      omega
  · obtain ⟨G1, e, q⟩ := strings_7 hsg rfl h
    exact ⟨G1, e, q.mono (fun _ _ z => z) (fun _ _ z => z.elim) (fun _ _ z => z.elim) (fun _ _ z => z) (fun _ _ _ z => z.elim)⟩
  · have := hd3.lt
    omega
end Lk00

namespace Lk00
open PySem PySem.Spec L2 Itp
theorem lg3 {x : Int} (h : -(10 ^ 95 : Int) ≤ x) (h' : x ≤ 10 ^ 95) : x.natAbs.log2 < 400 := by
  have h3 : x.natAbs ≤ 10 ^ 95 := by omega
  by_cases z : x.natAbs = 0
  · rw [z]
    decide
  · exact (Nat.log2_lt z).mpr (Nat.lt_of_le_of_lt h3 (by decide +kernel))
/-! ### numbers -/
def IL (xs : List D) : Prop := ∀ y ∈ xs, ∃ i : Int, y = .int i ∧ -(10 ^ 91) ≤ i ∧ i ≤ 10 ^ 91
def I5 (n : Nat) (fs : List D) (g2 g5 : Option D) (S0 : Sto) (ds : List D) (G : Gam) (S : Sto) : Prop := S = S0 ∧ ∃ sz g4, G = [some (.ref n), some (.lst fs), g2, some (.int sz), g4, g5] ∧ 1 ≤ sz ∧ sz * 10 ^ ds.length ≤ 10 ^ 89
theorem numbers_4 {n : Nat} {fs : List D} {g2 g5 : Option D} {S0 : Sto} {d : D} {ds : List D} {G : Gam} {S : Sto} (h : I5 n fs g2 g5 S0 (d :: ds) G S) :
    ∃ G1, some (List.set G 4 (some d)) = some G1 ∧ (evalS E__law_numbers b_numbers_4 G1 S).post { nx := I5 n fs g2 g5 S0 ds, ct := I5 n fs g2 g5 S0 ds } := by
  obtain ⟨rfl, sz, g4, rfl, h1, h2⟩ := h
  refine ⟨_, rfl, ?_⟩
  simp only [b_numbers_4, p_var, p_kint, p_kstr, p_kbl, p_knon, p_glo, p_ty, p_bin, p_un, p_cmp, p_chain, p_and, p_or, p_one, p_not, p_ife, p_tup, p_lst, p_dic, p_mkF, p_mkT, p_bi, p_me, p_ix, p_nil, p_cons, p_pnil, p_pcons, t_nil, t_not, t_and, t_or, t_one, t_tv, t_cmp, t_chain, i_range1, i_range2, i_over, i_overS, p_lc, s_asgLp, s_passp, s_brkp, s_contp, s_seqp, s_fseqp, s_asgp, s_aixp, s_parp, s_retp, s_ret0p, s_ifsp, s_forp, s_dropp, post_ok, post_if, post_bad, post_exc, asgG, asgGs, List.getElem?_cons_zero, List.getElem?_cons_succ, List.set_cons_zero, List.set_cons_succ, Option.some.injEq, exists_eq_left', exists_eq_left, D.int.injEq, D.str.injEq, D.bl.injEq, D.lst.injEq, D.ref.injEq, MO.lst.injEq, o_add, o_sub, o_mul, o_mod, o_div, o_pow, o_addS, o_mulS, o_addL, o_addRL, o_mulL, o_neg, m_eqI, m_neI, m_eqS, m_neS, m_eqB, m_neB, m_lt, m_le, m_gt, m_ge, m_inc, tr_bl, tr_int, tr_non, tr_lst, tr_tup, f_abs, f_int, f_intB, f_boolI, f_str, f_max, f_min, f_isin, y_non, y_bl, y_int, y_str, y_tup, y_lst, y_dct, isi_same, f_lenS, f_lenL, f_lenT, f_lenC, f_listL, f_listT, f_listR, f_all, f_any, f_repr, x_scr, x_str, x_lst, x_tup, x_ref, w_ref, h_append, h_extend, h_strip, it_ref, it_str, it_lst, mT_a, mT_e, mT_s, ov_l, ov_t]
  have hp : (1 : Int) ≤ 10 ^ (d :: ds).length := by
    have : (0 : Int) < 10 ^ (d :: ds).length := Int.pow_pos (by decide)
    omega
  have hs : sz ≤ 10 ^ 89 := Int.le_trans (by
    have := Int.mul_le_mul_of_nonneg_left hp (show 0 ≤ sz by omega)
    omega) h2
  refine ⟨?_, rfl, _, _, rfl, by omega, ?_⟩
  · have := lg3 (x := sz) (by omega) (by omega)
    have e : (Int.natAbs 10).log2 = 3 := by decide +kernel
    rw [e]
    omega
  · rw [List.length_cons, Int.pow_succ] at h2
    rw [Int.mul_assoc, Int.mul_comm 10]
    exact h2
def I4 (n : Nat) (ds : List D) (G : Gam) (S : Sto) : Prop := ∃ fs g2 g3 g4 g5, G = [some (.ref n), some (.lst fs), g2, g3, g4, g5] ∧ Dc S n (26 - 3 * ds.length) ∧ ds.length ≤ 5 ∧ IL fs ∧ fs.length + 3 * ds.length ≤ 100
theorem numbers_5 {n : Nat} {d : D} {ds : List D} {G : Gam} {S : Sto} (h : I4 n (d :: ds) G S) :
    ∃ G1, some (List.set G 2 (some d)) = some G1 ∧ (evalS E__law_numbers b_numbers_5 G1 S).post { nx := I4 n ds, ct := I4 n ds } := by
  obtain ⟨fs, g2, g3, g4, g5, rfl, hd, h5, hf, hn⟩ := h
  refine ⟨_, rfl, ?_⟩
  simp only [List.length_cons] at hd h5 hn
  simp only [b_numbers_5, p_call c__law_numbers__law_pick, p_var, p_kint, p_kstr, p_kbl, p_knon, p_glo, p_ty, p_bin, p_un, p_cmp, p_chain, p_and, p_or, p_one, p_not, p_ife, p_tup, p_lst, p_dic, p_mkF, p_mkT, p_bi, p_me, p_ix, p_nil, p_cons, p_pnil, p_pcons, t_nil, t_not, t_and, t_or, t_one, t_tv, t_cmp, t_chain, i_range1, i_range2, i_over, i_overS, p_lc, s_asgLp, s_passp, s_brkp, s_contp, s_seqp, s_fseqp, s_asgp, s_aixp, s_parp, s_retp, s_ret0p, s_ifsp, s_forp, s_dropp, post_ok, post_if, post_bad, post_exc, asgG, asgGs, List.getElem?_cons_zero, List.getElem?_cons_succ, List.set_cons_zero, List.set_cons_succ, Option.some.injEq, exists_eq_left', exists_eq_left, D.int.injEq, D.str.injEq, D.bl.injEq, D.lst.injEq, D.ref.injEq, MO.lst.injEq, o_add, o_sub, o_mul, o_mod, o_div, o_pow, o_addS, o_mulS, o_addL, o_addRL, o_mulL, o_neg, m_eqI, m_neI, m_eqS, m_neS, m_eqB, m_neB, m_lt, m_le, m_gt, m_ge, m_inc, tr_bl, tr_int, tr_non, tr_lst, tr_tup, f_abs, f_int, f_intB, f_boolI, f_str, f_max, f_min, f_isin, y_non, y_bl, y_int, y_str, y_tup, y_lst, y_dct, isi_same, f_lenS, f_lenL, f_lenT, f_lenC, f_listL, f_listT, f_listR, f_all, f_any, f_repr, x_scr, x_str, x_lst, x_tup, x_ref, w_ref, h_append, h_extend, h_strip, it_ref, it_str, it_lst, mT_a, mT_e, mT_s, ov_l, ov_t]
  refine ⟨by show 8 ≤ lim; decide, (pick_lst S n _ (by omega) hd _ (by show 0 < 8; decide) (by show 8 < 1000; decide)).to ?_⟩
  rintro y S1 ⟨hy, hd1, hs1⟩
  have : ∃ j : Nat, y = .int j ∧ j ≤ 89 := by
    simp at hy
    rcases hy with rfl | rfl | rfl | rfl | rfl | rfl | rfl
    · exact ⟨0, rfl, by decide⟩
    · exact ⟨1, rfl, by decide⟩
    · exact ⟨16, rfl, by decide⟩
    · exact ⟨59, rfl, by decide⟩
    · exact ⟨60, rfl, by decide⟩
    · exact ⟨61, rfl, by decide⟩
    · exact ⟨89, rfl, by decide⟩
  obtain ⟨j, rfl, hj⟩ := this
  simp only [p_var, p_kint, p_kstr, p_kbl, p_knon, p_glo, p_ty, p_bin, p_un, p_cmp, p_chain, p_and, p_or, p_one, p_not, p_ife, p_tup, p_lst, p_dic, p_mkF, p_mkT, p_bi, p_me, p_ix, p_nil, p_cons, p_pnil, p_pcons, t_nil, t_not, t_and, t_or, t_one, t_tv, t_cmp, t_chain, i_range1, i_range2, i_over, i_overS, p_lc, s_asgLp, s_passp, s_brkp, s_contp, s_seqp, s_fseqp, s_asgp, s_aixp, s_parp, s_retp, s_ret0p, s_ifsp, s_forp, s_dropp, post_ok, post_if, post_bad, post_exc, asgG, asgGs, List.getElem?_cons_zero, List.getElem?_cons_succ, List.set_cons_zero, List.set_cons_succ, Option.some.injEq, exists_eq_left', exists_eq_left, D.int.injEq, D.str.injEq, D.bl.injEq, D.lst.injEq, D.ref.injEq, MO.lst.injEq, o_add, o_sub, o_mul, o_mod, o_div, o_pow, o_addS, o_mulS, o_addL, o_addRL, o_mulL, o_neg, m_eqI, m_neI, m_eqS, m_neS, m_eqB, m_neB, m_lt, m_le, m_gt, m_ge, m_inc, tr_bl, tr_int, tr_non, tr_lst, tr_tup, f_abs, f_int, f_intB, f_boolI, f_str, f_max, f_min, f_isin, y_non, y_bl, y_int, y_str, y_tup, y_lst, y_dct, isi_same, f_lenS, f_lenL, f_lenT, f_lenC, f_listL, f_listT, f_listR, f_all, f_any, f_repr, x_scr, x_str, x_lst, x_tup, x_ref, w_ref, h_append, h_extend, h_strip, it_ref, it_str, it_lst, mT_a, mT_e, mT_s, ov_l, ov_t]
  refine ⟨by omega, for_post (I5 n fs (some d) g5 S1) ?_ (fun d ds G S h => ?_) _ _ _ ⟨rfl, _, _, rfl, Int.le_refl 1, ?_⟩⟩
  · rintro G S2 ⟨rfl, sz, g4, rfl, z1, z2⟩
    have z2 : sz ≤ 10 ^ 89 := by simpa using z2
    simp only [k_numbers_3, p_call c__law_numbers__law_roll, p_var, p_kint, p_kstr, p_kbl, p_knon, p_glo, p_ty, p_bin, p_un, p_cmp, p_chain, p_and, p_or, p_one, p_not, p_ife, p_tup, p_lst, p_dic, p_mkF, p_mkT, p_bi, p_me, p_ix, p_nil, p_cons, p_pnil, p_pcons, t_nil, t_not, t_and, t_or, t_one, t_tv, t_cmp, t_chain, i_range1, i_range2, i_over, i_overS, p_lc, s_asgLp, s_passp, s_brkp, s_contp, s_seqp, s_fseqp, s_asgp, s_aixp, s_parp, s_retp, s_ret0p, s_ifsp, s_forp, s_dropp, post_ok, post_if, post_bad, post_exc, asgG, asgGs, List.getElem?_cons_zero, List.getElem?_cons_succ, List.set_cons_zero, List.set_cons_succ, Option.some.injEq, exists_eq_left', exists_eq_left, D.int.injEq, D.str.injEq, D.bl.injEq, D.lst.injEq, D.ref.injEq, MO.lst.injEq, o_add, o_sub, o_mul, o_mod, o_div, o_pow, o_addS, o_mulS, o_addL, o_addRL, o_mulL, o_neg, m_eqI, m_neI, m_eqS, m_neS, m_eqB, m_neB, m_lt, m_le, m_gt, m_ge, m_inc, tr_bl, tr_int, tr_non, tr_lst, tr_tup, f_abs, f_int, f_intB, f_boolI, f_str, f_max, f_min, f_isin, y_non, y_bl, y_int, y_str, y_tup, y_lst, y_dct, isi_same, f_lenS, f_lenL, f_lenT, f_lenC, f_listL, f_listT, f_listR, f_all, f_any, f_repr, x_scr, x_str, x_lst, x_tup, x_ref, w_ref, h_append, h_extend, h_strip, it_ref, it_str, it_lst, mT_a, mT_e, mT_s, ov_l, ov_t]
    refine (roll_spec S2 n _ (by omega) hd1 3 (by decide) (by decide +kernel)).to ?_
    rintro _ S3 ⟨r, rfl, r0, r1, hd3, hs3⟩
    simp only [p_var, p_kint, p_kstr, p_kbl, p_knon, p_glo, p_ty, p_bin, p_un, p_cmp, p_chain, p_and, p_or, p_one, p_not, p_ife, p_tup, p_lst, p_dic, p_mkF, p_mkT, p_bi, p_me, p_ix, p_nil, p_cons, p_pnil, p_pcons, t_nil, t_not, t_and, t_or, t_one, t_tv, t_cmp, t_chain, i_range1, i_range2, i_over, i_overS, p_lc, s_asgLp, s_passp, s_brkp, s_contp, s_seqp, s_fseqp, s_asgp, s_aixp, s_parp, s_retp, s_ret0p, s_ifsp, s_forp, s_dropp, post_ok, post_if, post_bad, post_exc, asgG, asgGs, List.getElem?_cons_zero, List.getElem?_cons_succ, List.set_cons_zero, List.set_cons_succ, Option.some.injEq, exists_eq_left', exists_eq_left, D.int.injEq, D.str.injEq, D.bl.injEq, D.lst.injEq, D.ref.injEq, MO.lst.injEq, o_add, o_sub, o_mul, o_mod, o_div, o_pow, o_addS, o_mulS, o_addL, o_addRL, o_mulL, o_neg, m_eqI, m_neI, m_eqS, m_neS, m_eqB, m_neB, m_lt, m_le, m_gt, m_ge, m_inc, tr_bl, tr_int, tr_non, tr_lst, tr_tup, f_abs, f_int, f_intB, f_boolI, f_str, f_max, f_min, f_isin, y_non, y_bl, y_int, y_str, y_tup, y_lst, y_dct, isi_same, f_lenS, f_lenL, f_lenT, f_lenC, f_listL, f_listT, f_listR, f_all, f_any, f_repr, x_scr, x_str, x_lst, x_tup, x_ref, w_ref, h_append, h_extend, h_strip, it_ref, it_str, it_lst, mT_a, mT_e, mT_s, ov_l, ov_t]
    simp only [k_numbers_2, p_call c__law_numbers__law_roll, p_var, p_kint, p_kstr, p_kbl, p_knon, p_glo, p_ty, p_bin, p_un, p_cmp, p_chain, p_and, p_or, p_one, p_not, p_ife, p_tup, p_lst, p_dic, p_mkF, p_mkT, p_bi, p_me, p_ix, p_nil, p_cons, p_pnil, p_pcons, t_nil, t_not, t_and, t_or, t_one, t_tv, t_cmp, t_chain, i_range1, i_range2, i_over, i_overS, p_lc, s_asgLp, s_passp, s_brkp, s_contp, s_seqp, s_fseqp, s_asgp, s_aixp, s_parp, s_retp, s_ret0p, s_ifsp, s_forp, s_dropp, post_ok, post_if, post_bad, post_exc, asgG, asgGs, List.getElem?_cons_zero, List.getElem?_cons_succ, List.set_cons_zero, List.set_cons_succ, Option.some.injEq, exists_eq_left', exists_eq_left, D.int.injEq, D.str.injEq, D.bl.injEq, D.lst.injEq, D.ref.injEq, MO.lst.injEq, o_add, o_sub, o_mul, o_mod, o_div, o_pow, o_addS, o_mulS, o_addL, o_addRL, o_mulL, o_neg, m_eqI, m_neI, m_eqS, m_neS, m_eqB, m_neB, m_lt, m_le, m_gt, m_ge, m_inc, tr_bl, tr_int, tr_non, tr_lst, tr_tup, f_abs, f_int, f_intB, f_boolI, f_str, f_max, f_min, f_isin, y_non, y_bl, y_int, y_str, y_tup, y_lst, y_dct, isi_same, f_lenS, f_lenL, f_lenT, f_lenC, f_listL, f_listT, f_listR, f_all, f_any, f_repr, x_scr, x_str, x_lst, x_tup, x_ref, w_ref, h_append, h_extend, h_strip, it_ref, it_str, it_lst, mT_a, mT_e, mT_s, ov_l, ov_t]
    refine (roll_spec S3 n _ (by omega) hd3 sz (by omega) (Nat.lt_trans (lg3 (by omega) (by omega)) (by decide))).to ?_
    rintro _ S4 ⟨r', rfl, r0', r1', hd4, hs4⟩
    refine ⟨by show 3 ≤ lim; decide, Nat.le_trans (show fs.length + 3 ≤ 103 by omega) (by decide), _, _, _, _, _, rfl, hd4.le (by omega), by omega, ?_, ?_⟩
    · intro y hy
      rcases List.mem_append.mp hy with q | q
      · exact hf y q
      · simp at q
        rcases q with rfl | rfl | rfl
        · exact ⟨_, rfl, by omega, by omega⟩
        · exact ⟨_, rfl, by omega, by omega⟩
        · exact ⟨_, rfl, by omega, by omega⟩
    · rw [List.length_append]
      simp only [List.length_cons, List.length_nil]
      omega
  · obtain ⟨G1, e, q⟩ := numbers_4 h
    exact ⟨G1, e, q.mono (fun _ _ z => z) (fun _ _ z => z.elim) (fun _ _ z => z.elim) (fun _ _ z => z) (fun _ _ _ z => z.elim)⟩
  · have e : (rangeD 0 ((j : Int)).toNat).length = j := by simp [rangeD]
    rw [e, Int.one_mul]
    exact_mod_cast Nat.pow_le_pow_right (by decide) hj
theorem numbers_spec (S : Sto) (n : Nat) (h : Dc S n 11) : (r__law_numbers [.ref n] S).post (fun d S' => ∃ L, d = .lst L ∧ IL L ∧ Dc S' n 26) noX := by
  rw [b__law_numbers]
  simp only [f__law_numbers, p_var, p_kint, p_kstr, p_kbl, p_knon, p_glo, p_ty, p_bin, p_un, p_cmp, p_chain, p_and, p_or, p_one, p_not, p_ife, p_tup, p_lst, p_dic, p_mkF, p_mkT, p_bi, p_me, p_ix, p_nil, p_cons, p_pnil, p_pcons, t_nil, t_not, t_and, t_or, t_one, t_tv, t_cmp, t_chain, i_range1, i_range2, i_over, i_overS, p_lc, s_asgLp, s_passp, s_brkp, s_contp, s_seqp, s_fseqp, s_asgp, s_aixp, s_parp, s_retp, s_ret0p, s_ifsp, s_forp, s_dropp, post_ok, post_if, post_bad, post_exc, asgG, asgGs, List.getElem?_cons_zero, List.getElem?_cons_succ, List.set_cons_zero, List.set_cons_succ, Option.some.injEq, exists_eq_left', exists_eq_left, D.int.injEq, D.str.injEq, D.bl.injEq, D.lst.injEq, D.ref.injEq, MO.lst.injEq, o_add, o_sub, o_mul, o_mod, o_div, o_pow, o_addS, o_mulS, o_addL, o_addRL, o_mulL, o_neg, m_eqI, m_neI, m_eqS, m_neS, m_eqB, m_neB, m_lt, m_le, m_gt, m_ge, m_inc, tr_bl, tr_int, tr_non, tr_lst, tr_tup, f_abs, f_int, f_intB, f_boolI, f_str, f_max, f_min, f_isin, y_non, y_bl, y_int, y_str, y_tup, y_lst, y_dct, isi_same, f_lenS, f_lenL, f_lenT, f_lenC, f_listL, f_listT, f_listR, f_all, f_any, f_repr, x_scr, x_str, x_lst, x_tup, x_ref, w_ref, h_append, h_extend, h_strip, it_ref, it_str, it_lst, mT_a, mT_e, mT_s, ov_l, ov_t]
  refine ⟨by show 3 ≤ lim; decide, by decide, for_post (I4 n) ?_ (fun d ds G S h => ?_) _ _ _ ⟨_, _, _, _, _, rfl, h, by decide, ?_, by decide⟩⟩
  · rintro G S' ⟨fs, g2, g3, g4, g5, rfl, hd, _, hf, _⟩
    simp only [k_numbers_1, p_var, p_kint, p_kstr, p_kbl, p_knon, p_glo, p_ty, p_bin, p_un, p_cmp, p_chain, p_and, p_or, p_one, p_not, p_ife, p_tup, p_lst, p_dic, p_mkF, p_mkT, p_bi, p_me, p_ix, p_nil, p_cons, p_pnil, p_pcons, t_nil, t_not, t_and, t_or, t_one, t_tv, t_cmp, t_chain, i_range1, i_range2, i_over, i_overS, p_lc, s_asgLp, s_passp, s_brkp, s_contp, s_seqp, s_fseqp, s_asgp, s_aixp, s_parp, s_retp, s_ret0p, s_ifsp, s_forp, s_dropp, post_ok, post_if, post_bad, post_exc, asgG, asgGs, List.getElem?_cons_zero, List.getElem?_cons_succ, List.set_cons_zero, List.set_cons_succ, Option.some.injEq, exists_eq_left', exists_eq_left, D.int.injEq, D.str.injEq, D.bl.injEq, D.lst.injEq, D.ref.injEq, MO.lst.injEq, o_add, o_sub, o_mul, o_mod, o_div, o_pow, o_addS, o_mulS, o_addL, o_addRL, o_mulL, o_neg, m_eqI, m_neI, m_eqS, m_neS, m_eqB, m_neB, m_lt, m_le, m_gt, m_ge, m_inc, tr_bl, tr_int, tr_non, tr_lst, tr_tup, f_abs, f_int, f_intB, f_boolI, f_str, f_max, f_min, f_isin, y_non, y_bl, y_int, y_str, y_tup, y_lst, y_dct, isi_same, f_lenS, f_lenL, f_lenT, f_lenC, f_listL, f_listT, f_listR, f_all, f_any, f_repr, x_scr, x_str, x_lst, x_tup, x_ref, w_ref, h_append, h_extend, h_strip, it_ref, it_str, it_lst, mT_a, mT_e, mT_s, ov_l, ov_t]
    exact ⟨hf, hd⟩
  · obtain ⟨G1, e, q⟩ := numbers_5 h
    exact ⟨G1, e, q.mono (fun _ _ z => z) (fun _ _ z => z.elim) (fun _ _ z => z.elim) (fun _ _ z => z) (fun _ _ _ z => z.elim)⟩
  · intro y hy
    simp at hy
    rcases hy with rfl | rfl | rfl
    · exact ⟨_, rfl, by decide +kernel, by decide +kernel⟩
    · exact ⟨_, rfl, by decide +kernel, by decide +kernel⟩
    · exact ⟨_, rfl, by decide +kernel, by decide +kernel⟩
end Lk00

namespace Lk00
open PySem PySem.Spec L2 Itp
/-! ### texts of numbers, texts of letters -/
open PySem.Builtin.Str PyProof.Rows in
/-- a sign ahead of signs that stay is cut -/
theorem strip_len (x : Str) (goes : Nat → Bool) (p : Nat) (hp : p < x.length) (h0 : ∀ k, k < p → goes (x.cps.getD k 0) = true) (h1 : goes (x.cps.getD p 0) = false) (h2 : goes (x.cps.getD (x.length - 1) 0) = false) : (Txt.stripBy goes true true x).length = x.length - p := by
  obtain ⟨a1, a2, a3⟩ := lo_facts goes x
  have lo : stripLo goes true x = p := by
    rcases Nat.lt_trichotomy (stripLo goes true x) p with h | h | h
    · rcases a3 with q | q
      · omega
      · rw [h0 _ h] at q; cases q
    · exact h
    · rw [a2 p h] at h1; cases h1
  obtain ⟨b1, b2, b3, b4⟩ := hi_facts goes x (stripLo goes true x) a1
  have hi : stripHi goes true x (stripLo goes true x) = x.length := by
    by_cases h : stripHi goes true x (stripLo goes true x) ≤ x.length - 1
    · rw [b3 _ h (by omega)] at h2; cases h2
    · omega
  rw [stripBy_eq, hi, lo, size_strSub _ _ _ (Nat.le_refl _)]
open PySem.Builtin.Str PyProof.Rows in
theorem strip_empty (x : Str) (goes : Nat → Bool) : Txt.stripBy goes true true x = "" ↔ ∀ k, k < x.length → goes (x.cps.getD k 0) = true := by
  obtain ⟨a1, a2, a3⟩ := lo_facts goes x
  obtain ⟨b1, b2, b3, b4⟩ := hi_facts goes x (stripLo goes true x) a1
  have len : (Txt.stripBy goes true true x).length = stripHi goes true x (stripLo goes true x) - stripLo goes true x := by
    rw [stripBy_eq, size_strSub _ _ _ b2]
  constructor
  · intro e k hk
    rw [e] at len
    have len : 0 = stripHi goes true x (stripLo goes true x) - stripLo goes true x := len
    by_cases h : k < stripLo goes true x
    · exact a2 k h
    · exact b3 k (by omega) hk
  · intro h
    have lo : stripLo goes true x = x.length := by
      rcases a3 with q | q
      · exact q
      · by_cases z : stripLo goes true x < x.length
        · rw [h _ z] at q; cases q
        · omega
    have e : (Txt.stripBy goes true true x).length = 0 := by rw [len]; omega
    show Txt.stripBy goes true true x = ⟨#[]⟩
    generalize Txt.stripBy goes true true x = y at e
    obtain ⟨c⟩ := y
    have e : c.size = 0 := e
    rw [Array.eq_empty_of_size_eq_zero e]
theorem digits_no {m : Nat} {c : Nat} (h : c ∈ (Nat.toDigits 10 m).map Char.toNat) : c ≠ 45 := by
  obtain ⟨ch, hc, rfl⟩ := List.mem_map.mp h
  have := PyProof.Rows.digit_range (Nat.isDigit_of_mem_toDigits (by decide) (by decide) hc)
  omega
theorem getD_mem {x : Str} {l : List Nat} (e : x.cps.toList = l) (k : Nat) : x.cps.getD k 0 = l.getD k 0 := by
  rw [← e]
  exact (PyProof.Rows.getD_list x k).symm
theorem getD_in {l : List Nat} {k : Nat} (h : k < l.length) : l.getD k 0 ∈ l := by
  rw [List.getD_eq_getElem?_getD, List.getElem?_eq_getElem h]
  exact List.getElem_mem h
theorem let_len (i : Int) : (Txt.stripChars (Str.ofString (toString i)) "-").length = (Nat.toDigits 10 i.natAbs).length := by
  have hg : ∀ c, (("-" : Str).cps.contains c = true) ↔ c = 45 := fun c => by
    show (#[45].contains c = true) ↔ _
    simp
  have hgf : ∀ c, c ≠ 45 → ("-" : Str).cps.contains c = false := fun c h => by
    cases q : ("-" : Str).cps.contains c with
    | false => rfl
    | true => exact absurd ((hg c).mp q) h
  have ge1 := (PyProof.Rows.digitsFacts10 i.natAbs).ge1
  show (Txt.stripBy _ true true _).length = _
  by_cases h : 0 ≤ i
  · obtain ⟨m, rfl⟩ := Int.eq_ofNat_of_zero_le h
    have e : (Str.ofString (toString (Int.ofNat m))).cps.toList = (Nat.toDigits 10 m).map Char.toNat := by rw [PyProof.Rows.text_ofNat]
    have hl : (Str.ofString (toString (Int.ofNat m))).length = (Nat.toDigits 10 m).length := by
      rw [PyProof.Rows.text_ofNat]
      simp [Str.length]
    have ge1 : 1 ≤ (Nat.toDigits 10 m).length := ge1
    have key := strip_len (Str.ofString (toString (Int.ofNat m))) ("-" : Str).cps.contains 0 (by omega) (fun k z => by omega) (hgf _ (digits_no (by rw [getD_mem e]; exact getD_in (by rw [List.length_map]; omega)))) (hgf _ (digits_no (by rw [getD_mem e]; exact getD_in (by rw [List.length_map]; omega))))
    exact key.trans (by rw [hl]; rfl)
  · obtain ⟨m, e0⟩ := Int.eq_ofNat_of_zero_le (show 0 ≤ 0 - i by omega)
    have en : i.natAbs = m := by omega
    rw [en] at ge1 ⊢
    have e : (Str.ofString (toString i)).cps.toList = 45 :: (Nat.toDigits 10 m).map Char.toNat := by
      rw [PyProof.Rows.toString_neg (by omega), e0]
      have : Str.ofString ("-" ++ toString (Int.ofNat m)) = Str.ofString "-" ++ Str.ofString (toString (Int.ofNat m)) := by
        apply Str.ext'
        rw [Str.cps_append]
        simp [Str.ofString_eq_toList]
      show (Str.ofString ("-" ++ toString (Int.ofNat m))).cps.toList = _
      rw [this, PyProof.Rows.text_ofNat]
      simp [Str.cps_append]
      rfl
    have hl : (Str.ofString (toString i)).length = (Nat.toDigits 10 m).length + 1 := by
      show (Str.ofString (toString i)).cps.size = _
      rw [← Array.length_toList, e]
      simp
    have key := strip_len (Str.ofString (toString i)) ("-" : Str).cps.contains 1 (by omega) (fun k z => by
      have : k = 0 := by omega
      subst this
      rw [getD_mem e]
      exact (hg _).mpr rfl) (hgf _ (digits_no (m := m) (by
        rw [getD_mem e, List.getD_cons_succ]
        exact getD_in (by rw [List.length_map]; omega)))) (hgf _ (digits_no (m := m) (by
        rw [getD_mem e, hl, Nat.add_sub_cancel]
        obtain ⟨q, hq⟩ : ∃ q, (Nat.toDigits 10 m).length = q + 1 := ⟨(Nat.toDigits 10 m).length - 1, by omega⟩
        rw [hq, List.getD_cons_succ]
        exact getD_in (by rw [List.length_map]; omega))))
    rw [key, hl]
    rfl
/-! ### the checks -/
theorem nI : isiB .int .int = true := rfl
theorem nIS : isiB .int .str = false := rfl
theorem nIB : isiB .int .bool = false := rfl
theorem nSS : isiB .str .str = true := rfl
theorem nSI : isiB .str .int = false := rfl
def alph : Str := "abcdefghijklmnopqrstuvwxyz"
def nameB (z : Str) : Bool := decide (1 ≤ z.length ∧ z.length ≤ 8) && z.cps.toList.all fun c => decide (c ∈ alph.cps.toList)
theorem is_integer_int (S : Sto) (i : Int) : (r_is_integer [.int i] S).post (fun d S' => S' = S ∧ d = .bl (decide (-(10 ^ 60) < i ∧ i < 10 ^ 60))) noX := by
  rw [b_is_integer]
  simp only [f_is_integer, p_var, p_kint, p_kstr, p_kbl, p_knon, p_glo, p_ty, p_bin, p_un, p_cmp, p_chain, p_and, p_or, p_one, p_not, p_ife, p_tup, p_lst, p_dic, p_mkF, p_mkT, p_bi, p_me, p_ix, p_nil, p_cons, p_pnil, p_pcons, t_nil, t_not, t_and, t_or, t_one, t_tv, t_cmp, t_chain, i_range1, i_range2, i_over, i_overS, p_lc, s_asgLp, s_passp, s_brkp, s_contp, s_seqp, s_fseqp, s_asgp, s_aixp, s_parp, s_retp, s_ret0p, s_ifsp, s_forp, s_dropp, post_ok, post_if, post_bad, post_exc, asgG, asgGs, List.getElem?_cons_zero, List.getElem?_cons_succ, List.set_cons_zero, List.set_cons_succ, Option.some.injEq, exists_eq_left', exists_eq_left, D.int.injEq, D.str.injEq, D.bl.injEq, D.lst.injEq, D.ref.injEq, MO.lst.injEq, o_add, o_sub, o_mul, o_mod, o_div, o_pow, o_addS, o_mulS, o_addL, o_addRL, o_mulL, o_neg, m_eqI, m_neI, m_eqS, m_neS, m_eqB, m_neB, m_lt, m_le, m_gt, m_ge, m_inc, tr_bl, tr_int, tr_non, tr_lst, tr_tup, f_abs, f_int, f_intB, f_boolI, f_str, f_max, f_min, f_isin, y_non, y_bl, y_int, y_str, y_tup, y_lst, y_dct, isi_same, f_lenS, f_lenL, f_lenT, f_lenC, f_listL, f_listT, f_listR, f_all, f_any, f_repr, x_scr, x_str, x_lst, x_tup, x_ref, w_ref, h_append, h_extend, h_strip, it_ref, it_str, it_lst, mT_a, mT_e, mT_s, ov_l, ov_t, c_is_integer_LIMIT, nI, nIB, Bool.not_false, if_true]
  generalize (10 : Int) ^ 60 = M
  by_cases h : -M < i
  · by_cases h' : i < M <;> simp [h, h']
  · simp [h]
theorem is_count_int (S : Sto) (i : Int) : (r_is_count [.int i] S).post (fun d S' => S' = S ∧ d = .bl (decide (-(10 ^ 60) < i ∧ i < 10 ^ 60) && decide (0 ≤ i))) noX := by
  rw [b_is_count]
  simp only [f_is_count, p_var, p_kint, p_kstr, p_kbl, p_knon, p_glo, p_ty, p_bin, p_un, p_cmp, p_chain, p_and, p_or, p_one, p_not, p_ife, p_tup, p_lst, p_dic, p_mkF, p_mkT, p_bi, p_me, p_ix, p_nil, p_cons, p_pnil, p_pcons, t_nil, t_not, t_and, t_or, t_one, t_tv, t_cmp, t_chain, i_range1, i_range2, i_over, i_overS, p_lc, s_asgLp, s_passp, s_brkp, s_contp, s_seqp, s_fseqp, s_asgp, s_aixp, s_parp, s_retp, s_ret0p, s_ifsp, s_forp, s_dropp, post_ok, post_if, post_bad, post_exc, asgG, asgGs, List.getElem?_cons_zero, List.getElem?_cons_succ, List.set_cons_zero, List.set_cons_succ, Option.some.injEq, exists_eq_left', exists_eq_left, D.int.injEq, D.str.injEq, D.bl.injEq, D.lst.injEq, D.ref.injEq, MO.lst.injEq, o_add, o_sub, o_mul, o_mod, o_div, o_pow, o_addS, o_mulS, o_addL, o_addRL, o_mulL, o_neg, m_eqI, m_neI, m_eqS, m_neS, m_eqB, m_neB, m_lt, m_le, m_gt, m_ge, m_inc, tr_bl, tr_int, tr_non, tr_lst, tr_tup, f_abs, f_int, f_intB, f_boolI, f_str, f_max, f_min, f_isin, y_non, y_bl, y_int, y_str, y_tup, y_lst, y_dct, isi_same, f_lenS, f_lenL, f_lenT, f_lenC, f_listL, f_listT, f_listR, f_all, f_any, f_repr, x_scr, x_str, x_lst, x_tup, x_ref, w_ref, h_append, h_extend, h_strip, it_ref, it_str, it_lst, mT_a, mT_e, mT_s, ov_l, ov_t, p_call c_is_count_is_integer]
  refine (is_integer_int S i).to ?_
  rintro _ _ ⟨rfl, rfl⟩
  simp only [p_var, p_kint, p_kstr, p_kbl, p_knon, p_glo, p_ty, p_bin, p_un, p_cmp, p_chain, p_and, p_or, p_one, p_not, p_ife, p_tup, p_lst, p_dic, p_mkF, p_mkT, p_bi, p_me, p_ix, p_nil, p_cons, p_pnil, p_pcons, t_nil, t_not, t_and, t_or, t_one, t_tv, t_cmp, t_chain, i_range1, i_range2, i_over, i_overS, p_lc, s_asgLp, s_passp, s_brkp, s_contp, s_seqp, s_fseqp, s_asgp, s_aixp, s_parp, s_retp, s_ret0p, s_ifsp, s_forp, s_dropp, post_ok, post_if, post_bad, post_exc, asgG, asgGs, List.getElem?_cons_zero, List.getElem?_cons_succ, List.set_cons_zero, List.set_cons_succ, Option.some.injEq, exists_eq_left', exists_eq_left, D.int.injEq, D.str.injEq, D.bl.injEq, D.lst.injEq, D.ref.injEq, MO.lst.injEq, o_add, o_sub, o_mul, o_mod, o_div, o_pow, o_addS, o_mulS, o_addL, o_addRL, o_mulL, o_neg, m_eqI, m_neI, m_eqS, m_neS, m_eqB, m_neB, m_lt, m_le, m_gt, m_ge, m_inc, tr_bl, tr_int, tr_non, tr_lst, tr_tup, f_abs, f_int, f_intB, f_boolI, f_str, f_max, f_min, f_isin, y_non, y_bl, y_int, y_str, y_tup, y_lst, y_dct, isi_same, f_lenS, f_lenL, f_lenT, f_lenC, f_listL, f_listT, f_listR, f_all, f_any, f_repr, x_scr, x_str, x_lst, x_tup, x_ref, w_ref, h_append, h_extend, h_strip, it_ref, it_str, it_lst, mT_a, mT_e, mT_s, ov_l, ov_t]
  by_cases h : -(10 ^ 60 : Int) < i ∧ i < 10 ^ 60
  · rw [decide_eq_true h]
    simp
  · rw [decide_eq_false h]
    simp
theorem is_name_other (S : Sto) (d : D) {t : Tn} (h : tyOf S d = some t) (ht : isiB t .str = false) : (r_is_name [d] S).post (fun d S' => S' = S ∧ d = .bl false) noX := by
  rw [b_is_name]
  simp only [f_is_name, p_var, p_kint, p_kstr, p_kbl, p_knon, p_glo, p_ty, p_bin, p_un, p_cmp, p_chain, p_and, p_or, p_one, p_not, p_ife, p_tup, p_lst, p_dic, p_mkF, p_mkT, p_bi, p_me, p_ix, p_nil, p_cons, p_pnil, p_pcons, t_nil, t_not, t_and, t_or, t_one, t_tv, t_cmp, t_chain, i_range1, i_range2, i_over, i_overS, p_lc, s_asgLp, s_passp, s_brkp, s_contp, s_seqp, s_fseqp, s_asgp, s_aixp, s_parp, s_retp, s_ret0p, s_ifsp, s_forp, s_dropp, post_ok, post_if, post_bad, post_exc, asgG, asgGs, List.getElem?_cons_zero, List.getElem?_cons_succ, List.set_cons_zero, List.set_cons_succ, Option.some.injEq, exists_eq_left', exists_eq_left, D.int.injEq, D.str.injEq, D.bl.injEq, D.lst.injEq, D.ref.injEq, MO.lst.injEq, o_add, o_sub, o_mul, o_mod, o_div, o_pow, o_addS, o_mulS, o_addL, o_addRL, o_mulL, o_neg, m_eqI, m_neI, m_eqS, m_neS, m_eqB, m_neB, m_lt, m_le, m_gt, m_ge, m_inc, tr_bl, tr_int, tr_non, tr_lst, tr_tup, f_abs, f_int, f_intB, f_boolI, f_str, f_max, f_min, f_isin, y_non, y_bl, y_int, y_str, y_tup, y_lst, y_dct, isi_same, f_lenS, f_lenL, f_lenT, f_lenC, f_listL, f_listT, f_listR, f_all, f_any, f_repr, x_scr, x_str, x_lst, x_tup, x_ref, w_ref, h_append, h_extend, h_strip, it_ref, it_str, it_lst, mT_a, mT_e, mT_s, ov_l, ov_t, h, ht]
  simp
theorem is_integer_other (S : Sto) (d : D) {t : Tn} (h : tyOf S d = some t) (ht : isiB t .int = false ∨ isiB t .bool = true) : (r_is_integer [d] S).post (fun d S' => S' = S ∧ d = .bl false) noX := by
  rw [b_is_integer]
  simp only [f_is_integer, p_var, p_kint, p_kstr, p_kbl, p_knon, p_glo, p_ty, p_bin, p_un, p_cmp, p_chain, p_and, p_or, p_one, p_not, p_ife, p_tup, p_lst, p_dic, p_mkF, p_mkT, p_bi, p_me, p_ix, p_nil, p_cons, p_pnil, p_pcons, t_nil, t_not, t_and, t_or, t_one, t_tv, t_cmp, t_chain, i_range1, i_range2, i_over, i_overS, p_lc, s_asgLp, s_passp, s_brkp, s_contp, s_seqp, s_fseqp, s_asgp, s_aixp, s_parp, s_retp, s_ret0p, s_ifsp, s_forp, s_dropp, post_ok, post_if, post_bad, post_exc, asgG, asgGs, List.getElem?_cons_zero, List.getElem?_cons_succ, List.set_cons_zero, List.set_cons_succ, Option.some.injEq, exists_eq_left', exists_eq_left, D.int.injEq, D.str.injEq, D.bl.injEq, D.lst.injEq, D.ref.injEq, MO.lst.injEq, o_add, o_sub, o_mul, o_mod, o_div, o_pow, o_addS, o_mulS, o_addL, o_addRL, o_mulL, o_neg, m_eqI, m_neI, m_eqS, m_neS, m_eqB, m_neB, m_lt, m_le, m_gt, m_ge, m_inc, tr_bl, tr_int, tr_non, tr_lst, tr_tup, f_abs, f_int, f_intB, f_boolI, f_str, f_max, f_min, f_isin, y_non, y_bl, y_int, y_str, y_tup, y_lst, y_dct, isi_same, f_lenS, f_lenL, f_lenT, f_lenC, f_listL, f_listT, f_listR, f_all, f_any, f_repr, x_scr, x_str, x_lst, x_tup, x_ref, w_ref, h_append, h_extend, h_strip, it_ref, it_str, it_lst, mT_a, mT_e, mT_s, ov_l, ov_t, h]
  rcases ht with e | e
  · simp [e]
  · cases isiB t .int <;> simp [e]
theorem is_count_other (S : Sto) (d : D) {t : Tn} (h : tyOf S d = some t) (ht : isiB t .int = false ∨ isiB t .bool = true) : (r_is_count [d] S).post (fun d S' => S' = S ∧ d = .bl false) noX := by
  rw [b_is_count]
  simp only [f_is_count, p_var, p_kint, p_kstr, p_kbl, p_knon, p_glo, p_ty, p_bin, p_un, p_cmp, p_chain, p_and, p_or, p_one, p_not, p_ife, p_tup, p_lst, p_dic, p_mkF, p_mkT, p_bi, p_me, p_ix, p_nil, p_cons, p_pnil, p_pcons, t_nil, t_not, t_and, t_or, t_one, t_tv, t_cmp, t_chain, i_range1, i_range2, i_over, i_overS, p_lc, s_asgLp, s_passp, s_brkp, s_contp, s_seqp, s_fseqp, s_asgp, s_aixp, s_parp, s_retp, s_ret0p, s_ifsp, s_forp, s_dropp, post_ok, post_if, post_bad, post_exc, asgG, asgGs, List.getElem?_cons_zero, List.getElem?_cons_succ, List.set_cons_zero, List.set_cons_succ, Option.some.injEq, exists_eq_left', exists_eq_left, D.int.injEq, D.str.injEq, D.bl.injEq, D.lst.injEq, D.ref.injEq, MO.lst.injEq, o_add, o_sub, o_mul, o_mod, o_div, o_pow, o_addS, o_mulS, o_addL, o_addRL, o_mulL, o_neg, m_eqI, m_neI, m_eqS, m_neS, m_eqB, m_neB, m_lt, m_le, m_gt, m_ge, m_inc, tr_bl, tr_int, tr_non, tr_lst, tr_tup, f_abs, f_int, f_intB, f_boolI, f_str, f_max, f_min, f_isin, y_non, y_bl, y_int, y_str, y_tup, y_lst, y_dct, isi_same, f_lenS, f_lenL, f_lenT, f_lenC, f_listL, f_listT, f_listR, f_all, f_any, f_repr, x_scr, x_str, x_lst, x_tup, x_ref, w_ref, h_append, h_extend, h_strip, it_ref, it_str, it_lst, mT_a, mT_e, mT_s, ov_l, ov_t, p_call c_is_count_is_integer]
  refine (is_integer_other S d h ht).to ?_
  rintro _ _ ⟨rfl, rfl⟩
  simp [tr_bl]
theorem is_name_str (S : Sto) (z : Str) (hz : z.length ≤ 40) : (r_is_name [.str z] S).post (fun d S' => S' = S ∧ d = .bl (nameB z)) noX := by
  rw [b_is_name]
  have hl : z.length ≤ lim := Nat.le_trans hz (by decide)
  simp only [f_is_name, p_var, p_kint, p_kstr, p_kbl, p_knon, p_glo, p_ty, p_bin, p_un, p_cmp, p_chain, p_and, p_or, p_one, p_not, p_ife, p_tup, p_lst, p_dic, p_mkF, p_mkT, p_bi, p_me, p_ix, p_nil, p_cons, p_pnil, p_pcons, t_nil, t_not, t_and, t_or, t_one, t_tv, t_cmp, t_chain, i_range1, i_range2, i_over, i_overS, p_lc, s_asgLp, s_passp, s_brkp, s_contp, s_seqp, s_fseqp, s_asgp, s_aixp, s_parp, s_retp, s_ret0p, s_ifsp, s_forp, s_dropp, post_ok, post_if, post_bad, post_exc, asgG, asgGs, List.getElem?_cons_zero, List.getElem?_cons_succ, List.set_cons_zero, List.set_cons_succ, Option.some.injEq, exists_eq_left', exists_eq_left, D.int.injEq, D.str.injEq, D.bl.injEq, D.lst.injEq, D.ref.injEq, MO.lst.injEq, o_add, o_sub, o_mul, o_mod, o_div, o_pow, o_addS, o_mulS, o_addL, o_addRL, o_mulL, o_neg, m_eqI, m_neI, m_eqS, m_neS, m_eqB, m_neB, m_lt, m_le, m_gt, m_ge, m_inc, tr_bl, tr_int, tr_non, tr_lst, tr_tup, f_abs, f_int, f_intB, f_boolI, f_str, f_max, f_min, f_isin, y_non, y_bl, y_int, y_str, y_tup, y_lst, y_dct, isi_same, f_lenS, f_lenL, f_lenT, f_lenC, f_listL, f_listT, f_listR, f_all, f_any, f_repr, x_scr, x_str, x_lst, x_tup, x_ref, w_ref, h_append, h_extend, h_strip, it_ref, it_str, it_lst, mT_a, mT_e, mT_s, ov_l, ov_t, nSS, c_is_name_MAX_LETTERS]
  by_cases h1 : (1 : Int) ≤ z.length
  · by_cases h2 : (z.length : Int) ≤ 8
    · simp only [h1, h2, hl, decide_true, Bool.not_true, if_true, Bool.false_eq_true, if_false, true_and]
      refine (lc_map (P := fun d => ∃ c, d = .str ⟨#[c]⟩) (f := fun d => match d with | .str x => .bl (x.cps.toList.all fun c => decide (c ∈ alph.cps.toList)) | _ => .non) ?_ ?_ ?_).to ?_
      · rintro _ S ⟨c, rfl⟩
        simp only [p_turn, wipeG, List.map_cons, List.map_nil, p_var, p_kint, p_kstr, p_kbl, p_knon, p_glo, p_ty, p_bin, p_un, p_cmp, p_chain, p_and, p_or, p_one, p_not, p_ife, p_tup, p_lst, p_dic, p_mkF, p_mkT, p_bi, p_me, p_ix, p_nil, p_cons, p_pnil, p_pcons, t_nil, t_not, t_and, t_or, t_one, t_tv, t_cmp, t_chain, i_range1, i_range2, i_over, i_overS, p_lc, s_asgLp, s_passp, s_brkp, s_contp, s_seqp, s_fseqp, s_asgp, s_aixp, s_parp, s_retp, s_ret0p, s_ifsp, s_forp, s_dropp, post_ok, post_if, post_bad, post_exc, asgG, asgGs, List.getElem?_cons_zero, List.getElem?_cons_succ, List.set_cons_zero, List.set_cons_succ, Option.some.injEq, exists_eq_left', exists_eq_left, D.int.injEq, D.str.injEq, D.bl.injEq, D.lst.injEq, D.ref.injEq, MO.lst.injEq, o_add, o_sub, o_mul, o_mod, o_div, o_pow, o_addS, o_mulS, o_addL, o_addRL, o_mulL, o_neg, m_eqI, m_neI, m_eqS, m_neS, m_eqB, m_neB, m_lt, m_le, m_gt, m_ge, m_inc, tr_bl, tr_int, tr_non, tr_lst, tr_tup, f_abs, f_int, f_intB, f_boolI, f_str, f_max, f_min, f_isin, y_non, y_bl, y_int, y_str, y_tup, y_lst, y_dct, isi_same, f_lenS, f_lenL, f_lenT, f_lenC, f_listL, f_listT, f_listR, f_all, f_any, f_repr, x_scr, x_str, x_lst, x_tup, x_ref, w_ref, h_append, h_extend, h_strip, it_ref, it_str, it_lst, mT_a, mT_e, mT_s, ov_l, ov_t, c_is_name_ALPHABET, if_true]
        exact ⟨trivial, by simp [alph]⟩
      · intro d hd
        obtain ⟨c, _, rfl⟩ := List.mem_map.mp hd
        exact ⟨c, rfl⟩
      · show (z.cps.toList.map _).length ≤ lim
        rw [List.length_map]
        exact hl
      · rintro _ _ ⟨rfl, rfl⟩
        have key : ∀ l : List Nat, bools ((l.map fun c => D.str ⟨#[c]⟩).map fun d => match d with | .str x => .bl (x.cps.toList.all fun c => decide (c ∈ alph.cps.toList)) | _ => .non) = some (l.map fun c => decide (c ∈ alph.cps.toList)) := by
          intro l
          induction l with
          | nil => rfl
          | cons c l ih =>
            rw [List.map_cons, List.map_cons, bools, ih]
            simp
        simp only [p_var, p_kint, p_kstr, p_kbl, p_knon, p_glo, p_ty, p_bin, p_un, p_cmp, p_chain, p_and, p_or, p_one, p_not, p_ife, p_tup, p_lst, p_dic, p_mkF, p_mkT, p_bi, p_me, p_ix, p_nil, p_cons, p_pnil, p_pcons, t_nil, t_not, t_and, t_or, t_one, t_tv, t_cmp, t_chain, i_range1, i_range2, i_over, i_overS, p_lc, s_asgLp, s_passp, s_brkp, s_contp, s_seqp, s_fseqp, s_asgp, s_aixp, s_parp, s_retp, s_ret0p, s_ifsp, s_forp, s_dropp, post_ok, post_if, post_bad, post_exc, asgG, asgGs, List.getElem?_cons_zero, List.getElem?_cons_succ, List.set_cons_zero, List.set_cons_succ, Option.some.injEq, exists_eq_left', exists_eq_left, D.int.injEq, D.str.injEq, D.bl.injEq, D.lst.injEq, D.ref.injEq, MO.lst.injEq, o_add, o_sub, o_mul, o_mod, o_div, o_pow, o_addS, o_mulS, o_addL, o_addRL, o_mulL, o_neg, m_eqI, m_neI, m_eqS, m_neS, m_eqB, m_neB, m_lt, m_le, m_gt, m_ge, m_inc, tr_bl, tr_int, tr_non, tr_lst, tr_tup, f_abs, f_int, f_intB, f_boolI, f_str, f_max, f_min, f_isin, y_non, y_bl, y_int, y_str, y_tup, y_lst, y_dct, isi_same, f_lenS, f_lenL, f_lenT, f_lenC, f_listL, f_listT, f_listR, f_all, f_any, f_repr, x_scr, x_str, x_lst, x_tup, x_ref, w_ref, h_append, h_extend, h_strip, it_ref, it_str, it_lst, mT_a, mT_e, mT_s, ov_l, ov_t]
        refine ⟨_, key _, trivial, ?_⟩
        have g1 : 1 ≤ z.length := by omega
        have g2 : z.length ≤ 8 := by omega
        simp [nameB, g1, g2]
    · simp only [h1, h2, hl, decide_true, decide_false, Bool.not_true, Bool.not_false, if_true, Bool.false_eq_true, if_false, true_and]
      have : nameB z = false := by
        have : ¬ (1 ≤ z.length ∧ z.length ≤ 8) := by omega
        simp [nameB, this]
      rw [this]
  · simp only [h1, hl, decide_false, Bool.not_true, Bool.not_false, if_true, Bool.false_eq_true, if_false, true_and]
    have : nameB z = false := by
      have : ¬ (1 ≤ z.length ∧ z.length ≤ 8) := by omega
      simp [nameB, this]
    rw [this]
theorem str_len (i : Int) : (Str.ofString (toString i)).length ≤ (Nat.toDigits 10 i.natAbs).length + 1 := by
  by_cases h : 0 ≤ i
  · obtain ⟨m, rfl⟩ := Int.eq_ofNat_of_zero_le h
    have hl : (Str.ofString (toString (Int.ofNat m))).length = (Nat.toDigits 10 m).length := by
      rw [PyProof.Rows.text_ofNat]
      simp [Str.length]
    exact Nat.le_trans (Nat.le_of_eq hl) (Nat.le_succ _)
  · obtain ⟨m, e0⟩ := Int.eq_ofNat_of_zero_le (show 0 ≤ 0 - i by omega)
    have en : i.natAbs = m := by omega
    have hl : (Str.ofString (toString (Int.ofNat m))).length = (Nat.toDigits 10 m).length := by
      rw [PyProof.Rows.text_ofNat]
      simp [Str.length]
    have hl : (Str.ofString (toString ((m : Nat) : Int))).length = (Nat.toDigits 10 m).length := hl
    rw [PyProof.Rows.len_text_neg (by omega), e0, en, hl]
    omega
theorem is_let (S : Sto) (i : Int) (h1 : -(10 ^ 91) ≤ i) (h2 : i ≤ 10 ^ 91) : (r__law_is_let [.int i] S).post (fun d S' => S' = S ∧ d = .bl (decide (-(10 ^ 60) < i ∧ i < 10 ^ 60))) noX := by
  rw [b__law_is_let]
  simp only [f__law_is_let, p_var, p_kint, p_kstr, p_kbl, p_knon, p_glo, p_ty, p_bin, p_un, p_cmp, p_chain, p_and, p_or, p_one, p_not, p_ife, p_tup, p_lst, p_dic, p_mkF, p_mkT, p_bi, p_me, p_ix, p_nil, p_cons, p_pnil, p_pcons, t_nil, t_not, t_and, t_or, t_one, t_tv, t_cmp, t_chain, i_range1, i_range2, i_over, i_overS, p_lc, s_asgLp, s_passp, s_brkp, s_contp, s_seqp, s_fseqp, s_asgp, s_aixp, s_parp, s_retp, s_ret0p, s_ifsp, s_forp, s_dropp, post_ok, post_if, post_bad, post_exc, asgG, asgGs, List.getElem?_cons_zero, List.getElem?_cons_succ, List.set_cons_zero, List.set_cons_succ, Option.some.injEq, exists_eq_left', exists_eq_left, D.int.injEq, D.str.injEq, D.bl.injEq, D.lst.injEq, D.ref.injEq, MO.lst.injEq, o_add, o_sub, o_mul, o_mod, o_div, o_pow, o_addS, o_mulS, o_addL, o_addRL, o_mulL, o_neg, m_eqI, m_neI, m_eqS, m_neS, m_eqB, m_neB, m_lt, m_le, m_gt, m_ge, m_inc, tr_bl, tr_int, tr_non, tr_lst, tr_tup, f_abs, f_int, f_intB, f_boolI, f_str, f_max, f_min, f_isin, y_non, y_bl, y_int, y_str, y_tup, y_lst, y_dct, isi_same, f_lenS, f_lenL, f_lenT, f_lenC, f_listL, f_listT, f_listR, f_all, f_any, f_repr, x_scr, x_str, x_lst, x_tup, x_ref, w_ref, h_append, h_extend, h_strip, it_ref, it_str, it_lst, mT_a, mT_e, mT_s, ov_l, ov_t]
  have ll : (Nat.toDigits 10 i.natAbs).length ≤ 92 := PyProof.Rows.digits10_le (by decide) (by omega)
  have el := let_len i
  have big : (92 : Nat) ≤ lim := by decide
  refine ⟨Nat.lt_trans (lg3 (by omega) (by omega)) (by decide), trivial, ?_, ?_, trivial, ?_⟩
  · have := str_len i
    exact Nat.le_trans this (Nat.le_trans (Nat.add_le_add_right ll 1) (by decide))
  · exact Nat.le_trans (Nat.le_of_eq el) (Nat.le_trans ll big)
  · have e : ((Txt.stripChars (Str.ofString (toString i)) "-").length : Int) = ((Nat.toDigits 10 i.natAbs).length : Int) := by rw [el]
    rw [e, decide_eq_decide]
    constructor
    · intro h
      have : ¬ 10 ^ 60 ≤ i.natAbs := fun q => by
        have := PyProof.Rows.digits10_ge q
        omega
      omega
    · intro h
      have := PyProof.Rows.digits10_le (k := 60) (n := i.natAbs) (by decide) (by omega)
      omega
end Lk00

namespace Lk00
open PySem PySem.Spec L2 Itp
theorem repr3 (a b c : Bool) : ∃ x, ∀ S, reprD S (.lst [.bl a, .bl b, .bl c]) = some x := by
  have : (reprD [] (.lst [.bl a, .bl b, .bl c])).isSome = true := by
    cases a <;> cases b <;> cases c <;> decide +kernel
  obtain ⟨x, h⟩ := Option.isSome_iff_exists.mp this
  exact ⟨x, fun S => h⟩
theorem strip_name (z : Str) : decide (Txt.stripChars z alph = "") = z.cps.toList.all fun c => decide (c ∈ alph.cps.toList) := by
  rw [Bool.eq_iff_iff, decide_eq_true_eq, List.all_eq_true]
  unfold Txt.stripChars
  rw [strip_empty]
  have hc : ∀ c, alph.cps.contains c = true ↔ c ∈ alph.cps.toList := fun c => by simp
  constructor
  · intro h c hcm
    obtain ⟨k, hk, rfl⟩ := List.getElem_of_mem hcm
    have hk' : k < z.length := by simpa [Str.length] using hk
    have := h k hk'
    rw [getD_mem rfl, hc, List.getD_eq_getElem?_getD, List.getElem?_eq_getElem hk] at this
    exact decide_eq_true this
  · intro h k hk
    have hk' : k < z.cps.toList.length := by simpa [Str.length] using hk
    rw [getD_mem rfl, hc]
    exact of_decide_eq_true (h _ (getD_in hk'))
def cDue : C := (.and (.cmp .Eq (.me .strip1 (.var 3) (.cons (.kstr "abcdefghijklmnopqrstuvwxyz") .nil)) (.kstr "")) (.one (.chain .Lt .Lt (.kint 0) (.bi false .len (.cons (.var 3) .nil)) (.kint 9))))
theorem due_spec (G : Gam) (z : Str) (hG : G[3]? = some (some (.str z))) (S : Sto) (hz : z.length ≤ 40) : (evalE E_law cDue G S).post (fun d S' => S' = S ∧ d = .bl (nameB z)) noX := by
  have hl : z.length ≤ lim := Nat.le_trans hz (by decide)
  simp only [cDue, p_var, p_kint, p_kstr, p_kbl, p_knon, p_glo, p_ty, p_bin, p_un, p_cmp, p_chain, p_and, p_or, p_one, p_not, p_ife, p_tup, p_lst, p_dic, p_mkF, p_mkT, p_bi, p_me, p_ix, p_nil, p_cons, p_pnil, p_pcons, t_nil, t_not, t_and, t_or, t_one, t_tv, t_cmp, t_chain, i_range1, i_range2, i_over, i_overS, p_lc, s_asgLp, s_passp, s_brkp, s_contp, s_seqp, s_fseqp, s_asgp, s_aixp, s_parp, s_retp, s_ret0p, s_ifsp, s_forp, s_dropp, post_ok, post_if, post_bad, post_exc, asgG, asgGs, List.getElem?_cons_zero, List.getElem?_cons_succ, List.set_cons_zero, List.set_cons_succ, Option.some.injEq, exists_eq_left', exists_eq_left, D.int.injEq, D.str.injEq, D.bl.injEq, D.lst.injEq, D.ref.injEq, MO.lst.injEq, o_add, o_sub, o_mul, o_mod, o_div, o_pow, o_addS, o_mulS, o_addL, o_addRL, o_mulL, o_neg, m_eqI, m_neI, m_eqS, m_neS, m_eqB, m_neB, m_lt, m_le, m_gt, m_ge, m_inc, tr_bl, tr_int, tr_non, tr_lst, tr_tup, f_abs, f_int, f_intB, f_boolI, f_str, f_max, f_min, f_isin, y_non, y_bl, y_int, y_str, y_tup, y_lst, y_dct, isi_same, f_lenS, f_lenL, f_lenT, f_lenC, f_listL, f_listT, f_listR, f_all, f_any, f_repr, x_scr, x_str, x_lst, x_tup, x_ref, w_ref, h_append, h_extend, h_strip, it_ref, it_str, it_lst, mT_a, mT_e, mT_s, ov_l, ov_t, hG, hl, true_and]
  have sn := strip_name z
  by_cases e : Txt.stripChars z alph = ""
  · rw [decide_eq_true e] at sn
    have e : Txt.stripChars z (Str.ofString "abcdefghijklmnopqrstuvwxyz") = Str.ofString "" := e
    simp only [e, decide_true, if_true, decide_eq_true_eq]
    unfold nameB
    rw [← sn]
    split
    · rw [Bool.and_true, decide_eq_decide]
      omega
    · rw [Bool.and_true, eq_comm, decide_eq_false_iff_not]
      omega
  · rw [decide_eq_false e] at sn
    have e : ¬ Txt.stripChars z (Str.ofString "abcdefghijklmnopqrstuvwxyz") = Str.ofString "" := e
    simp only [e, decide_false, if_false, Bool.false_eq_true]
    unfold nameB
    rw [← sn]
    simp
def J1 (ns : List Int) (sp : Option D) (n : Nat) (ds : List D) (G : Gam) (S : Sto) : Prop := ∃ g3 g4 g5, G = [some (.scr ns), sp, some (.ref n), g3, g4, g5, none, none] ∧ Dc S n 11 ∧ SL 40 ds
theorem law_6 {ns : List Int} {sp : Option D} {n : Nat} {d : D} {ds : List D} {G : Gam} {S : Sto} (h : J1 ns sp n (d :: ds) G S) :
    ∃ G1, some (List.set G 3 (some d)) = some G1 ∧ (evalS E_law b_law_6 G1 S).post { nx := J1 ns sp n ds, ct := J1 ns sp n ds } := by
  obtain ⟨g3, g4, g5, rfl, hd, hs⟩ := h
  obtain ⟨z, rfl, hz⟩ := hs.head
  refine ⟨_, rfl, ?_⟩
  rw [show b_law_6 = .seq (.asg (.tn 4) cDue) _ from rfl, s_seqp, s_asgp]
  refine (due_spec _ z rfl S hz).to ?_
  rintro _ _ ⟨rfl, rfl⟩
  simp only [p_var, p_kint, p_kstr, p_kbl, p_knon, p_glo, p_ty, p_bin, p_un, p_cmp, p_chain, p_and, p_or, p_one, p_not, p_ife, p_tup, p_lst, p_dic, p_mkF, p_mkT, p_bi, p_me, p_ix, p_nil, p_cons, p_pnil, p_pcons, t_nil, t_not, t_and, t_or, t_one, t_tv, t_cmp, t_chain, i_range1, i_range2, i_over, i_overS, p_lc, s_asgLp, s_passp, s_brkp, s_contp, s_seqp, s_fseqp, s_asgp, s_aixp, s_parp, s_retp, s_ret0p, s_ifsp, s_forp, s_dropp, post_ok, post_if, post_bad, post_exc, asgG, asgGs, List.getElem?_cons_zero, List.getElem?_cons_succ, List.set_cons_zero, List.set_cons_succ, Option.some.injEq, exists_eq_left', exists_eq_left, D.int.injEq, D.str.injEq, D.bl.injEq, D.lst.injEq, D.ref.injEq, MO.lst.injEq, o_add, o_sub, o_mul, o_mod, o_div, o_pow, o_addS, o_mulS, o_addL, o_addRL, o_mulL, o_neg, m_eqI, m_neI, m_eqS, m_neS, m_eqB, m_neB, m_lt, m_le, m_gt, m_ge, m_inc, tr_bl, tr_int, tr_non, tr_lst, tr_tup, f_abs, f_int, f_intB, f_boolI, f_str, f_max, f_min, f_isin, y_non, y_bl, y_int, y_str, y_tup, y_lst, y_dct, isi_same, f_lenS, f_lenL, f_lenT, f_lenC, f_listL, f_listT, f_listR, f_all, f_any, f_repr, x_scr, x_str, x_lst, x_tup, x_ref, w_ref, h_append, h_extend, h_strip, it_ref, it_str, it_lst, mT_a, mT_e, mT_s, ov_l, ov_t, p_call c_law_is_name, p_call c_law_is_integer, p_call c_law_is_count]
  refine (is_name_str _ z hz).to ?_
  rintro _ _ ⟨rfl, rfl⟩
  refine (is_integer_other _ (.str z) rfl (.inl rfl)).to ?_
  rintro _ _ ⟨rfl, rfl⟩
  refine (is_count_other _ (.str z) rfl (.inl rfl)).to ?_
  rintro _ _ ⟨rfl, rfl⟩
  obtain ⟨x, hx⟩ := repr3 (nameB z) false false
  simp only [p_var, p_kint, p_kstr, p_kbl, p_knon, p_glo, p_ty, p_bin, p_un, p_cmp, p_chain, p_and, p_or, p_one, p_not, p_ife, p_tup, p_lst, p_dic, p_mkF, p_mkT, p_bi, p_me, p_ix, p_nil, p_cons, p_pnil, p_pcons, t_nil, t_not, t_and, t_or, t_one, t_tv, t_cmp, t_chain, i_range1, i_range2, i_over, i_overS, p_lc, s_asgLp, s_passp, s_brkp, s_contp, s_seqp, s_fseqp, s_asgp, s_aixp, s_parp, s_retp, s_ret0p, s_ifsp, s_forp, s_dropp, post_ok, post_if, post_bad, post_exc, asgG, asgGs, List.getElem?_cons_zero, List.getElem?_cons_succ, List.set_cons_zero, List.set_cons_succ, Option.some.injEq, exists_eq_left', exists_eq_left, D.int.injEq, D.str.injEq, D.bl.injEq, D.lst.injEq, D.ref.injEq, MO.lst.injEq, o_add, o_sub, o_mul, o_mod, o_div, o_pow, o_addS, o_mulS, o_addL, o_addRL, o_mulL, o_neg, m_eqI, m_neI, m_eqS, m_neS, m_eqB, m_neB, m_lt, m_le, m_gt, m_ge, m_inc, tr_bl, tr_int, tr_non, tr_lst, tr_tup, f_abs, f_int, f_intB, f_boolI, f_str, f_max, f_min, f_isin, y_non, y_bl, y_int, y_str, y_tup, y_lst, y_dct, isi_same, f_lenS, f_lenL, f_lenT, f_lenC, f_listL, f_listT, f_listR, f_all, f_any, f_repr, x_scr, x_str, x_lst, x_tup, x_ref, w_ref, h_append, h_extend, h_strip, it_ref, it_str, it_lst, mT_a, mT_e, mT_s, ov_l, ov_t, hx, decide_true, Bool.not_true, Bool.false_eq_true, if_false]
  exact ⟨by show 3 ≤ lim; decide, by show 3 ≤ lim; decide, _, _, _, rfl, hd, hs.tail⟩
def J2 (ns : List Int) (sp : Option D) (n : Nat) (ds : List D) (G : Gam) (S : Sto) : Prop := ∃ g3 g4 g5, G = [some (.scr ns), sp, some (.ref n), g3, g4, g5, none, none] ∧ IL ds
theorem law_4 {ns : List Int} {sp : Option D} {n : Nat} {d : D} {ds : List D} {G : Gam} {S : Sto} (h : J2 ns sp n (d :: ds) G S) :
    ∃ G1, some (List.set G 5 (some d)) = some G1 ∧ (evalS E_law b_law_4 G1 S).post { nx := J2 ns sp n ds, ct := J2 ns sp n ds } := by
  obtain ⟨g3, g4, g5, rfl, hs⟩ := h
  obtain ⟨i, rfl, i1, i2⟩ := hs d (List.mem_cons_self ..)
  refine ⟨_, rfl, ?_⟩
  simp only [b_law_4, p_var, p_kint, p_kstr, p_kbl, p_knon, p_glo, p_ty, p_bin, p_un, p_cmp, p_chain, p_and, p_or, p_one, p_not, p_ife, p_tup, p_lst, p_dic, p_mkF, p_mkT, p_bi, p_me, p_ix, p_nil, p_cons, p_pnil, p_pcons, t_nil, t_not, t_and, t_or, t_one, t_tv, t_cmp, t_chain, i_range1, i_range2, i_over, i_overS, p_lc, s_asgLp, s_passp, s_brkp, s_contp, s_seqp, s_fseqp, s_asgp, s_aixp, s_parp, s_retp, s_ret0p, s_ifsp, s_forp, s_dropp, post_ok, post_if, post_bad, post_exc, asgG, asgGs, List.getElem?_cons_zero, List.getElem?_cons_succ, List.set_cons_zero, List.set_cons_succ, Option.some.injEq, exists_eq_left', exists_eq_left, D.int.injEq, D.str.injEq, D.bl.injEq, D.lst.injEq, D.ref.injEq, MO.lst.injEq, o_add, o_sub, o_mul, o_mod, o_div, o_pow, o_addS, o_mulS, o_addL, o_addRL, o_mulL, o_neg, m_eqI, m_neI, m_eqS, m_neS, m_eqB, m_neB, m_lt, m_le, m_gt, m_ge, m_inc, tr_bl, tr_int, tr_non, tr_lst, tr_tup, f_abs, f_int, f_intB, f_boolI, f_str, f_max, f_min, f_isin, y_non, y_bl, y_int, y_str, y_tup, y_lst, y_dct, isi_same, f_lenS, f_lenL, f_lenT, f_lenC, f_listL, f_listT, f_listR, f_all, f_any, f_repr, x_scr, x_str, x_lst, x_tup, x_ref, w_ref, h_append, h_extend, h_strip, it_ref, it_str, it_lst, mT_a, mT_e, mT_s, ov_l, ov_t, p_call c_law__law_is_let]
  refine (is_let S i i1 i2).to ?_
  rintro _ _ ⟨rfl, rfl⟩
  refine (is_let _ i i1 i2).to ?_
  rintro _ _ ⟨rfl, rfl⟩
  have key : ∀ S : Sto, (evalS E_law k_law_3 [some (.scr ns), sp, some (.ref n), g3, some (.lst [.bl false, .bl (decide (-(10 ^ 60) < i ∧ i < 10 ^ 60)), .bl (decide (-(10 ^ 60) < i ∧ i < 10 ^ 60) && decide (0 ≤ i))]), some (.int i), none, none] S).post { nx := J2 ns sp n ds, ct := J2 ns sp n ds } := by
    intro S
    simp only [k_law_3, p_var, p_kint, p_kstr, p_kbl, p_knon, p_glo, p_ty, p_bin, p_un, p_cmp, p_chain, p_and, p_or, p_one, p_not, p_ife, p_tup, p_lst, p_dic, p_mkF, p_mkT, p_bi, p_me, p_ix, p_nil, p_cons, p_pnil, p_pcons, t_nil, t_not, t_and, t_or, t_one, t_tv, t_cmp, t_chain, i_range1, i_range2, i_over, i_overS, p_lc, s_asgLp, s_passp, s_brkp, s_contp, s_seqp, s_fseqp, s_asgp, s_aixp, s_parp, s_retp, s_ret0p, s_ifsp, s_forp, s_dropp, post_ok, post_if, post_bad, post_exc, asgG, asgGs, List.getElem?_cons_zero, List.getElem?_cons_succ, List.set_cons_zero, List.set_cons_succ, Option.some.injEq, exists_eq_left', exists_eq_left, D.int.injEq, D.str.injEq, D.bl.injEq, D.lst.injEq, D.ref.injEq, MO.lst.injEq, o_add, o_sub, o_mul, o_mod, o_div, o_pow, o_addS, o_mulS, o_addL, o_addRL, o_mulL, o_neg, m_eqI, m_neI, m_eqS, m_neS, m_eqB, m_neB, m_lt, m_le, m_gt, m_ge, m_inc, tr_bl, tr_int, tr_non, tr_lst, tr_tup, f_abs, f_int, f_intB, f_boolI, f_str, f_max, f_min, f_isin, y_non, y_bl, y_int, y_str, y_tup, y_lst, y_dct, isi_same, f_lenS, f_lenL, f_lenT, f_lenC, f_listL, f_listT, f_listR, f_all, f_any, f_repr, x_scr, x_str, x_lst, x_tup, x_ref, w_ref, h_append, h_extend, h_strip, it_ref, it_str, it_lst, mT_a, mT_e, mT_s, ov_l, ov_t, p_call c_law_is_name, p_call c_law_is_integer, p_call c_law_is_count]
    refine (is_name_other _ (.int i) rfl rfl).to ?_
    rintro _ _ ⟨rfl, rfl⟩
    refine (is_integer_int _ i).to ?_
    rintro _ _ ⟨rfl, rfl⟩
    refine (is_count_int _ i).to ?_
    rintro _ _ ⟨rfl, rfl⟩
    obtain ⟨x, hx⟩ := repr3 false (decide (-(10 ^ 60) < i ∧ i < 10 ^ 60)) (decide (-(10 ^ 60) < i ∧ i < 10 ^ 60) && decide (0 ≤ i))
    simp only [p_var, p_kint, p_kstr, p_kbl, p_knon, p_glo, p_ty, p_bin, p_un, p_cmp, p_chain, p_and, p_or, p_one, p_not, p_ife, p_tup, p_lst, p_dic, p_mkF, p_mkT, p_bi, p_me, p_ix, p_nil, p_cons, p_pnil, p_pcons, t_nil, t_not, t_and, t_or, t_one, t_tv, t_cmp, t_chain, i_range1, i_range2, i_over, i_overS, p_lc, s_asgLp, s_passp, s_brkp, s_contp, s_seqp, s_fseqp, s_asgp, s_aixp, s_parp, s_retp, s_ret0p, s_ifsp, s_forp, s_dropp, post_ok, post_if, post_bad, post_exc, asgG, asgGs, List.getElem?_cons_zero, List.getElem?_cons_succ, List.set_cons_zero, List.set_cons_succ, Option.some.injEq, exists_eq_left', exists_eq_left, D.int.injEq, D.str.injEq, D.bl.injEq, D.lst.injEq, D.ref.injEq, MO.lst.injEq, o_add, o_sub, o_mul, o_mod, o_div, o_pow, o_addS, o_mulS, o_addL, o_addRL, o_mulL, o_neg, m_eqI, m_neI, m_eqS, m_neS, m_eqB, m_neB, m_lt, m_le, m_gt, m_ge, m_inc, tr_bl, tr_int, tr_non, tr_lst, tr_tup, f_abs, f_int, f_intB, f_boolI, f_str, f_max, f_min, f_isin, y_non, y_bl, y_int, y_str, y_tup, y_lst, y_dct, isi_same, f_lenS, f_lenL, f_lenT, f_lenC, f_listL, f_listT, f_listR, f_all, f_any, f_repr, x_scr, x_str, x_lst, x_tup, x_ref, w_ref, h_append, h_extend, h_strip, it_ref, it_str, it_lst, mT_a, mT_e, mT_s, ov_l, ov_t, hx, decide_true, Bool.not_true, Bool.false_eq_true, if_false]
    exact ⟨by show 3 ≤ lim; decide, _, _, _, rfl, fun y hy => hs y (List.mem_cons_of_mem _ hy)⟩
  simp only [p_var, p_kint, p_kstr, p_kbl, p_knon, p_glo, p_ty, p_bin, p_un, p_cmp, p_chain, p_and, p_or, p_one, p_not, p_ife, p_tup, p_lst, p_dic, p_mkF, p_mkT, p_bi, p_me, p_ix, p_nil, p_cons, p_pnil, p_pcons, t_nil, t_not, t_and, t_or, t_one, t_tv, t_cmp, t_chain, i_range1, i_range2, i_over, i_overS, p_lc, s_asgLp, s_passp, s_brkp, s_contp, s_seqp, s_fseqp, s_asgp, s_aixp, s_parp, s_retp, s_ret0p, s_ifsp, s_forp, s_dropp, post_ok, post_if, post_bad, post_exc, asgG, asgGs, List.getElem?_cons_zero, List.getElem?_cons_succ, List.set_cons_zero, List.set_cons_succ, Option.some.injEq, exists_eq_left', exists_eq_left, D.int.injEq, D.str.injEq, D.bl.injEq, D.lst.injEq, D.ref.injEq, MO.lst.injEq, o_add, o_sub, o_mul, o_mod, o_div, o_pow, o_addS, o_mulS, o_addL, o_addRL, o_mulL, o_neg, m_eqI, m_neI, m_eqS, m_neS, m_eqB, m_neB, m_lt, m_le, m_gt, m_ge, m_inc, tr_bl, tr_int, tr_non, tr_lst, tr_tup, f_abs, f_int, f_intB, f_boolI, f_str, f_max, f_min, f_isin, y_non, y_bl, y_int, y_str, y_tup, y_lst, y_dct, isi_same, f_lenS, f_lenL, f_lenT, f_lenC, f_listL, f_listT, f_listR, f_all, f_any, f_repr, x_scr, x_str, x_lst, x_tup, x_ref, w_ref, h_append, h_extend, h_strip, it_ref, it_str, it_lst, mT_a, mT_e, mT_s, ov_l, ov_t]
  generalize decide (-(10 ^ 60) < i ∧ i < 10 ^ 60) = b at key ⊢
  cases b with
  | true =>
    simp only [if_true]
    exact ⟨by show 3 ≤ lim; decide, key _⟩
  | false =>
    simp only [Bool.false_eq_true, if_false]
    exact ⟨by show 3 ≤ lim; decide, key _⟩
def J3 (ns : List Int) (ds : List D) (G : Gam) (S : Sto) : Prop := ∃ g1 g2 g3 g4 g5, G = [some (.scr ns), g1, g2, g3, g4, g5, none, none] ∧ ∀ y ∈ ds, ∃ j : Nat, y = .int j ∧ j < 3
theorem law_8 {ns : List Int} {d : D} {ds : List D} {G : Gam} {S : Sto} (h : J3 ns (d :: ds) G S) :
    ∃ G1, some (List.set G 1 (some d)) = some G1 ∧ (evalS E_law b_law_8 G1 S).post { nx := J3 ns ds, ct := J3 ns ds } := by
  obtain ⟨g1, g2, g3, g4, g5, rfl, hs⟩ := h
  obtain ⟨j, rfl, hj⟩ := hs d (List.mem_cons_self ..)
  refine ⟨_, rfl, ?_⟩
  simp only [b_law_8, p_var, p_kint, p_kstr, p_kbl, p_knon, p_glo, p_ty, p_bin, p_un, p_cmp, p_chain, p_and, p_or, p_one, p_not, p_ife, p_tup, p_lst, p_dic, p_mkF, p_mkT, p_bi, p_me, p_ix, p_nil, p_cons, p_pnil, p_pcons, t_nil, t_not, t_and, t_or, t_one, t_tv, t_cmp, t_chain, i_range1, i_range2, i_over, i_overS, p_lc, s_asgLp, s_passp, s_brkp, s_contp, s_seqp, s_fseqp, s_asgp, s_aixp, s_parp, s_retp, s_ret0p, s_ifsp, s_forp, s_dropp, post_ok, post_if, post_bad, post_exc, asgG, asgGs, List.getElem?_cons_zero, List.getElem?_cons_succ, List.set_cons_zero, List.set_cons_succ, Option.some.injEq, exists_eq_left', exists_eq_left, D.int.injEq, D.str.injEq, D.bl.injEq, D.lst.injEq, D.ref.injEq, MO.lst.injEq, o_add, o_sub, o_mul, o_mod, o_div, o_pow, o_addS, o_mulS, o_addL, o_addRL, o_mulL, o_neg, m_eqI, m_neI, m_eqS, m_neS, m_eqB, m_neB, m_lt, m_le, m_gt, m_ge, m_inc, tr_bl, tr_int, tr_non, tr_lst, tr_tup, f_abs, f_int, f_intB, f_boolI, f_str, f_max, f_min, f_isin, y_non, y_bl, y_int, y_str, y_tup, y_lst, y_dct, isi_same, f_lenS, f_lenL, f_lenT, f_lenC, f_listL, f_listT, f_listR, f_all, f_any, f_repr, x_scr, x_str, x_lst, x_tup, x_ref, w_ref, h_append, h_extend, h_strip, it_ref, it_str, it_lst, mT_a, mT_e, mT_s, ov_l, ov_t, p_call c_law__law_dice]
  refine (dice_spec ns j hj S).to ?_
  rintro _ _ ⟨rfl, a, b, rfl⟩
  simp only [k_law_7, p_var, p_kint, p_kstr, p_kbl, p_knon, p_glo, p_ty, p_bin, p_un, p_cmp, p_chain, p_and, p_or, p_one, p_not, p_ife, p_tup, p_lst, p_dic, p_mkF, p_mkT, p_bi, p_me, p_ix, p_nil, p_cons, p_pnil, p_pcons, t_nil, t_not, t_and, t_or, t_one, t_tv, t_cmp, t_chain, i_range1, i_range2, i_over, i_overS, p_lc, s_asgLp, s_passp, s_brkp, s_contp, s_seqp, s_fseqp, s_asgp, s_aixp, s_parp, s_retp, s_ret0p, s_ifsp, s_forp, s_dropp, post_ok, post_if, post_bad, post_exc, asgG, asgGs, List.getElem?_cons_zero, List.getElem?_cons_succ, List.set_cons_zero, List.set_cons_succ, Option.some.injEq, exists_eq_left', exists_eq_left, D.int.injEq, D.str.injEq, D.bl.injEq, D.lst.injEq, D.ref.injEq, MO.lst.injEq, o_add, o_sub, o_mul, o_mod, o_div, o_pow, o_addS, o_mulS, o_addL, o_addRL, o_mulL, o_neg, m_eqI, m_neI, m_eqS, m_neS, m_eqB, m_neB, m_lt, m_le, m_gt, m_ge, m_inc, tr_bl, tr_int, tr_non, tr_lst, tr_tup, f_abs, f_int, f_intB, f_boolI, f_str, f_max, f_min, f_isin, y_non, y_bl, y_int, y_str, y_tup, y_lst, y_dct, isi_same, f_lenS, f_lenL, f_lenT, f_lenC, f_listL, f_listT, f_listR, f_all, f_any, f_repr, x_scr, x_str, x_lst, x_tup, x_ref, w_ref, h_append, h_extend, h_strip, it_ref, it_str, it_lst, mT_a, mT_e, mT_s, ov_l, ov_t, p_call c_law__law_strings]
  refine (strings_spec _ S.length ⟨a, b, 0, st_new, by decide, by decide⟩).to ?_
  rintro _ S1 ⟨L, rfl, hL, hd⟩
  simp only [p_var, p_kint, p_kstr, p_kbl, p_knon, p_glo, p_ty, p_bin, p_un, p_cmp, p_chain, p_and, p_or, p_one, p_not, p_ife, p_tup, p_lst, p_dic, p_mkF, p_mkT, p_bi, p_me, p_ix, p_nil, p_cons, p_pnil, p_pcons, t_nil, t_not, t_and, t_or, t_one, t_tv, t_cmp, t_chain, i_range1, i_range2, i_over, i_overS, p_lc, s_asgLp, s_passp, s_brkp, s_contp, s_seqp, s_fseqp, s_asgp, s_aixp, s_parp, s_retp, s_ret0p, s_ifsp, s_forp, s_dropp, post_ok, post_if, post_bad, post_exc, asgG, asgGs, List.getElem?_cons_zero, List.getElem?_cons_succ, List.set_cons_zero, List.set_cons_succ, Option.some.injEq, exists_eq_left', exists_eq_left, D.int.injEq, D.str.injEq, D.bl.injEq, D.lst.injEq, D.ref.injEq, MO.lst.injEq, o_add, o_sub, o_mul, o_mod, o_div, o_pow, o_addS, o_mulS, o_addL, o_addRL, o_mulL, o_neg, m_eqI, m_neI, m_eqS, m_neS, m_eqB, m_neB, m_lt, m_le, m_gt, m_ge, m_inc, tr_bl, tr_int, tr_non, tr_lst, tr_tup, f_abs, f_int, f_intB, f_boolI, f_str, f_max, f_min, f_isin, y_non, y_bl, y_int, y_str, y_tup, y_lst, y_dct, isi_same, f_lenS, f_lenL, f_lenT, f_lenC, f_listL, f_listT, f_listR, f_all, f_any, f_repr, x_scr, x_str, x_lst, x_tup, x_ref, w_ref, h_append, h_extend, h_strip, it_ref, it_str, it_lst, mT_a, mT_e, mT_s, ov_l, ov_t]
  refine for_post (J1 ns (some (.int j)) S.length) ?_ (fun d ds G S h => ?_) _ _ _ ⟨_, _, _, rfl, hd, hL⟩
  · rintro G S2 ⟨g3, g4, g5, rfl, hd2, _⟩
    simp only [k_law_5, p_var, p_kint, p_kstr, p_kbl, p_knon, p_glo, p_ty, p_bin, p_un, p_cmp, p_chain, p_and, p_or, p_one, p_not, p_ife, p_tup, p_lst, p_dic, p_mkF, p_mkT, p_bi, p_me, p_ix, p_nil, p_cons, p_pnil, p_pcons, t_nil, t_not, t_and, t_or, t_one, t_tv, t_cmp, t_chain, i_range1, i_range2, i_over, i_overS, p_lc, s_asgLp, s_passp, s_brkp, s_contp, s_seqp, s_fseqp, s_asgp, s_aixp, s_parp, s_retp, s_ret0p, s_ifsp, s_forp, s_dropp, post_ok, post_if, post_bad, post_exc, asgG, asgGs, List.getElem?_cons_zero, List.getElem?_cons_succ, List.set_cons_zero, List.set_cons_succ, Option.some.injEq, exists_eq_left', exists_eq_left, D.int.injEq, D.str.injEq, D.bl.injEq, D.lst.injEq, D.ref.injEq, MO.lst.injEq, o_add, o_sub, o_mul, o_mod, o_div, o_pow, o_addS, o_mulS, o_addL, o_addRL, o_mulL, o_neg, m_eqI, m_neI, m_eqS, m_neS, m_eqB, m_neB, m_lt, m_le, m_gt, m_ge, m_inc, tr_bl, tr_int, tr_non, tr_lst, tr_tup, f_abs, f_int, f_intB, f_boolI, f_str, f_max, f_min, f_isin, y_non, y_bl, y_int, y_str, y_tup, y_lst, y_dct, isi_same, f_lenS, f_lenL, f_lenT, f_lenC, f_listL, f_listT, f_listR, f_all, f_any, f_repr, x_scr, x_str, x_lst, x_tup, x_ref, w_ref, h_append, h_extend, h_strip, it_ref, it_str, it_lst, mT_a, mT_e, mT_s, ov_l, ov_t, p_call c_law__law_numbers]
    refine (numbers_spec _ _ hd2).to ?_
    rintro _ S3 ⟨L2, rfl, hL2, _⟩
    simp only [p_var, p_kint, p_kstr, p_kbl, p_knon, p_glo, p_ty, p_bin, p_un, p_cmp, p_chain, p_and, p_or, p_one, p_not, p_ife, p_tup, p_lst, p_dic, p_mkF, p_mkT, p_bi, p_me, p_ix, p_nil, p_cons, p_pnil, p_pcons, t_nil, t_not, t_and, t_or, t_one, t_tv, t_cmp, t_chain, i_range1, i_range2, i_over, i_overS, p_lc, s_asgLp, s_passp, s_brkp, s_contp, s_seqp, s_fseqp, s_asgp, s_aixp, s_parp, s_retp, s_ret0p, s_ifsp, s_forp, s_dropp, post_ok, post_if, post_bad, post_exc, asgG, asgGs, List.getElem?_cons_zero, List.getElem?_cons_succ, List.set_cons_zero, List.set_cons_succ, Option.some.injEq, exists_eq_left', exists_eq_left, D.int.injEq, D.str.injEq, D.bl.injEq, D.lst.injEq, D.ref.injEq, MO.lst.injEq, o_add, o_sub, o_mul, o_mod, o_div, o_pow, o_addS, o_mulS, o_addL, o_addRL, o_mulL, o_neg, m_eqI, m_neI, m_eqS, m_neS, m_eqB, m_neB, m_lt, m_le, m_gt, m_ge, m_inc, tr_bl, tr_int, tr_non, tr_lst, tr_tup, f_abs, f_int, f_intB, f_boolI, f_str, f_max, f_min, f_isin, y_non, y_bl, y_int, y_str, y_tup, y_lst, y_dct, isi_same, f_lenS, f_lenL, f_lenT, f_lenC, f_listL, f_listT, f_listR, f_all, f_any, f_repr, x_scr, x_str, x_lst, x_tup, x_ref, w_ref, h_append, h_extend, h_strip, it_ref, it_str, it_lst, mT_a, mT_e, mT_s, ov_l, ov_t]
    refine for_post (J2 ns (some (.int j)) S.length) ?_ (fun d ds G S h => ?_) _ _ _ ⟨_, _, _, rfl, hL2⟩
    · rintro G S4 ⟨g3, g4, g5, rfl, _⟩
      exact ⟨_, _, _, _, _, rfl, fun y hy => hs y (List.mem_cons_of_mem _ hy)⟩
    · obtain ⟨G1, e, q⟩ := law_4 h
      exact ⟨G1, e, q.mono (fun _ _ z => z) (fun _ _ z => z.elim) (fun _ _ z => z.elim) (fun _ _ z => z) (fun _ _ _ z => z.elim)⟩
  · obtain ⟨G1, e, q⟩ := law_6 h
    exact ⟨G1, e, q.mono (fun _ _ z => z) (fun _ _ z => z.elim) (fun _ _ z => z.elim) (fun _ _ z => z) (fun _ _ _ z => z.elim)⟩
/-- what is no text and no number -/
def Odd (d : D) : Prop := ∃ t, (∀ S, tyOf S d = some t) ∧ isiB t .str = false ∧ (isiB t .int = false ∨ isiB t .bool = true)
theorem true_law : TrueLaw lawR 63 := by
  intro ns hn
  suffices h : (r_law [.scr ns] []).post (fun d _ => d = .bl true) noX by
    obtain ⟨d, S, e, rfl⟩ := h.eq
    exact ⟨S, e⟩
  rw [b_law]
  simp only [f_law, p_var, p_kint, p_kstr, p_kbl, p_knon, p_glo, p_ty, p_bin, p_un, p_cmp, p_chain, p_and, p_or, p_one, p_not, p_ife, p_tup, p_lst, p_dic, p_mkF, p_mkT, p_bi, p_me, p_ix, p_nil, p_cons, p_pnil, p_pcons, t_nil, t_not, t_and, t_or, t_one, t_tv, t_cmp, t_chain, i_range1, i_range2, i_over, i_overS, p_lc, s_asgLp, s_passp, s_brkp, s_contp, s_seqp, s_fseqp, s_asgp, s_aixp, s_parp, s_retp, s_ret0p, s_ifsp, s_forp, s_dropp, post_ok, post_if, post_bad, post_exc, asgG, asgGs, List.getElem?_cons_zero, List.getElem?_cons_succ, List.set_cons_zero, List.set_cons_succ, Option.some.injEq, exists_eq_left', exists_eq_left, D.int.injEq, D.str.injEq, D.bl.injEq, D.lst.injEq, D.ref.injEq, MO.lst.injEq, o_add, o_sub, o_mul, o_mod, o_div, o_pow, o_addS, o_mulS, o_addL, o_addRL, o_mulL, o_neg, m_eqI, m_neI, m_eqS, m_neS, m_eqB, m_neB, m_lt, m_le, m_gt, m_ge, m_inc, tr_bl, tr_int, tr_non, tr_lst, tr_tup, f_abs, f_int, f_intB, f_boolI, f_str, f_max, f_min, f_isin, y_non, y_bl, y_int, y_str, y_tup, y_lst, y_dct, isi_same, f_lenS, f_lenL, f_lenT, f_lenC, f_listL, f_listT, f_listR, f_all, f_any, f_repr, x_scr, x_str, x_lst, x_tup, x_ref, w_ref, h_append, h_extend, h_strip, it_ref, it_str, it_lst, mT_a, mT_e, mT_s, ov_l, ov_t]
  refine ⟨?_, for_post (J3 ns) ?_ (fun d ds G S h => ?_) _ _ _ ⟨_, _, _, _, _, rfl, ?_⟩⟩
  · split <;> split <;> omega
  · rintro G S ⟨g1, g2, g3, g4, g5, rfl, _⟩
    simp only [k_law_2, p_var, p_kint, p_kstr, p_kbl, p_knon, p_glo, p_ty, p_bin, p_un, p_cmp, p_chain, p_and, p_or, p_one, p_not, p_ife, p_tup, p_lst, p_dic, p_mkF, p_mkT, p_bi, p_me, p_ix, p_nil, p_cons, p_pnil, p_pcons, t_nil, t_not, t_and, t_or, t_one, t_tv, t_cmp, t_chain, i_range1, i_range2, i_over, i_overS, p_lc, s_asgLp, s_passp, s_brkp, s_contp, s_seqp, s_fseqp, s_asgp, s_aixp, s_parp, s_retp, s_ret0p, s_ifsp, s_forp, s_dropp, post_ok, post_if, post_bad, post_exc, asgG, asgGs, List.getElem?_cons_zero, List.getElem?_cons_succ, List.set_cons_zero, List.set_cons_succ, Option.some.injEq, exists_eq_left', exists_eq_left, D.int.injEq, D.str.injEq, D.bl.injEq, D.lst.injEq, D.ref.injEq, MO.lst.injEq, o_add, o_sub, o_mul, o_mod, o_div, o_pow, o_addS, o_mulS, o_addL, o_addRL, o_mulL, o_neg, m_eqI, m_neI, m_eqS, m_neS, m_eqB, m_neB, m_lt, m_le, m_gt, m_ge, m_inc, tr_bl, tr_int, tr_non, tr_lst, tr_tup, f_abs, f_int, f_intB, f_boolI, f_str, f_max, f_min, f_isin, y_non, y_bl, y_int, y_str, y_tup, y_lst, y_dct, isi_same, f_lenS, f_lenL, f_lenT, f_lenC, f_listL, f_listT, f_listR, f_all, f_any, f_repr, x_scr, x_str, x_lst, x_tup, x_ref, w_ref, h_append, h_extend, h_strip, it_ref, it_str, it_lst, mT_a, mT_e, mT_s, ov_l, ov_t]
    have odd : ∀ d ∈ [D.non, D.bl true, D.bl false, D.tup [], D.tup [D.str "a"], D.lst [D.str "a"], D.dct [D.str "a"] [D.int 1], D.tup [D.int 1], D.lst [D.int 1], D.dct [D.int 1] [D.int 1], D.tup [D.str "a", D.str "b"]], Odd d := by
      intro d hd
      simp only [List.mem_cons, List.not_mem_nil, or_false] at hd
      rcases hd with rfl | rfl | rfl | rfl | rfl | rfl | rfl | rfl | rfl | rfl | rfl
      · exact ⟨.non, fun _ => rfl, rfl, .inl rfl⟩
      · exact ⟨.bool, fun _ => rfl, rfl, .inr rfl⟩
      · exact ⟨.bool, fun _ => rfl, rfl, .inr rfl⟩
      · exact ⟨.tuple, fun _ => rfl, rfl, .inl rfl⟩
      · exact ⟨.tuple, fun _ => rfl, rfl, .inl rfl⟩
      · exact ⟨.list, fun _ => rfl, rfl, .inl rfl⟩
      · exact ⟨.dict, fun _ => rfl, rfl, .inl rfl⟩
      · exact ⟨.tuple, fun _ => rfl, rfl, .inl rfl⟩
      · exact ⟨.list, fun _ => rfl, rfl, .inl rfl⟩
      · exact ⟨.dict, fun _ => rfl, rfl, .inl rfl⟩
      · exact ⟨.tuple, fun _ => rfl, rfl, .inl rfl⟩
    refine ⟨by decide, by decide, by decide, by decide +kernel, by decide, by decide, by decide +kernel, by decide, by decide, (lc_keep (P := Odd) (f := fun _ => none) ?_ odd (by decide)).to ?_⟩
    · rintro d S ⟨t, h0, h1, h2⟩
      simp only [p_turn, wipeG, List.map_cons, List.map_nil, p_var, p_kint, p_kstr, p_kbl, p_knon, p_glo, p_ty, p_bin, p_un, p_cmp, p_chain, p_and, p_or, p_one, p_not, p_ife, p_tup, p_lst, p_dic, p_mkF, p_mkT, p_bi, p_me, p_ix, p_nil, p_cons, p_pnil, p_pcons, t_nil, t_not, t_and, t_or, t_one, t_tv, t_cmp, t_chain, i_range1, i_range2, i_over, i_overS, p_lc, s_asgLp, s_passp, s_brkp, s_contp, s_seqp, s_fseqp, s_asgp, s_aixp, s_parp, s_retp, s_ret0p, s_ifsp, s_forp, s_dropp, post_ok, post_if, post_bad, post_exc, asgG, asgGs, List.getElem?_cons_zero, List.getElem?_cons_succ, List.set_cons_zero, List.set_cons_succ, Option.some.injEq, exists_eq_left', exists_eq_left, D.int.injEq, D.str.injEq, D.bl.injEq, D.lst.injEq, D.ref.injEq, MO.lst.injEq, o_add, o_sub, o_mul, o_mod, o_div, o_pow, o_addS, o_mulS, o_addL, o_addRL, o_mulL, o_neg, m_eqI, m_neI, m_eqS, m_neS, m_eqB, m_neB, m_lt, m_le, m_gt, m_ge, m_inc, tr_bl, tr_int, tr_non, tr_lst, tr_tup, f_abs, f_int, f_intB, f_boolI, f_str, f_max, f_min, f_isin, y_non, y_bl, y_int, y_str, y_tup, y_lst, y_dct, isi_same, f_lenS, f_lenL, f_lenT, f_lenC, f_listL, f_listT, f_listR, f_all, f_any, f_repr, x_scr, x_str, x_lst, x_tup, x_ref, w_ref, h_append, h_extend, h_strip, it_ref, it_str, it_lst, mT_a, mT_e, mT_s, ov_l, ov_t, p_call c_law_is_name, p_call c_law_is_integer, p_call c_law_is_count]
      refine (is_name_other _ d (h0 _) h1).to ?_
      rintro _ _ ⟨rfl, rfl⟩
      simp only [p_var, p_kint, p_kstr, p_kbl, p_knon, p_glo, p_ty, p_bin, p_un, p_cmp, p_chain, p_and, p_or, p_one, p_not, p_ife, p_tup, p_lst, p_dic, p_mkF, p_mkT, p_bi, p_me, p_ix, p_nil, p_cons, p_pnil, p_pcons, t_nil, t_not, t_and, t_or, t_one, t_tv, t_cmp, t_chain, i_range1, i_range2, i_over, i_overS, p_lc, s_asgLp, s_passp, s_brkp, s_contp, s_seqp, s_fseqp, s_asgp, s_aixp, s_parp, s_retp, s_ret0p, s_ifsp, s_forp, s_dropp, post_ok, post_if, post_bad, post_exc, asgG, asgGs, List.getElem?_cons_zero, List.getElem?_cons_succ, List.set_cons_zero, List.set_cons_succ, Option.some.injEq, exists_eq_left', exists_eq_left, D.int.injEq, D.str.injEq, D.bl.injEq, D.lst.injEq, D.ref.injEq, MO.lst.injEq, o_add, o_sub, o_mul, o_mod, o_div, o_pow, o_addS, o_mulS, o_addL, o_addRL, o_mulL, o_neg, m_eqI, m_neI, m_eqS, m_neS, m_eqB, m_neB, m_lt, m_le, m_gt, m_ge, m_inc, tr_bl, tr_int, tr_non, tr_lst, tr_tup, f_abs, f_int, f_intB, f_boolI, f_str, f_max, f_min, f_isin, y_non, y_bl, y_int, y_str, y_tup, y_lst, y_dct, isi_same, f_lenS, f_lenL, f_lenT, f_lenC, f_listL, f_listT, f_listR, f_all, f_any, f_repr, x_scr, x_str, x_lst, x_tup, x_ref, w_ref, h_append, h_extend, h_strip, it_ref, it_str, it_lst, mT_a, mT_e, mT_s, ov_l, ov_t, Bool.false_eq_true, if_false]
      refine (is_integer_other _ d (h0 _) h2).to ?_
      rintro _ _ ⟨rfl, rfl⟩
      simp only [p_var, p_kint, p_kstr, p_kbl, p_knon, p_glo, p_ty, p_bin, p_un, p_cmp, p_chain, p_and, p_or, p_one, p_not, p_ife, p_tup, p_lst, p_dic, p_mkF, p_mkT, p_bi, p_me, p_ix, p_nil, p_cons, p_pnil, p_pcons, t_nil, t_not, t_and, t_or, t_one, t_tv, t_cmp, t_chain, i_range1, i_range2, i_over, i_overS, p_lc, s_asgLp, s_passp, s_brkp, s_contp, s_seqp, s_fseqp, s_asgp, s_aixp, s_parp, s_retp, s_ret0p, s_ifsp, s_forp, s_dropp, post_ok, post_if, post_bad, post_exc, asgG, asgGs, List.getElem?_cons_zero, List.getElem?_cons_succ, List.set_cons_zero, List.set_cons_succ, Option.some.injEq, exists_eq_left', exists_eq_left, D.int.injEq, D.str.injEq, D.bl.injEq, D.lst.injEq, D.ref.injEq, MO.lst.injEq, o_add, o_sub, o_mul, o_mod, o_div, o_pow, o_addS, o_mulS, o_addL, o_addRL, o_mulL, o_neg, m_eqI, m_neI, m_eqS, m_neS, m_eqB, m_neB, m_lt, m_le, m_gt, m_ge, m_inc, tr_bl, tr_int, tr_non, tr_lst, tr_tup, f_abs, f_int, f_intB, f_boolI, f_str, f_max, f_min, f_isin, y_non, y_bl, y_int, y_str, y_tup, y_lst, y_dct, isi_same, f_lenS, f_lenL, f_lenT, f_lenC, f_listL, f_listT, f_listR, f_all, f_any, f_repr, x_scr, x_str, x_lst, x_tup, x_ref, w_ref, h_append, h_extend, h_strip, it_ref, it_str, it_lst, mT_a, mT_e, mT_s, ov_l, ov_t, Bool.false_eq_true, if_false]
      refine (is_count_other _ d (h0 _) h2).to ?_
      rintro _ _ ⟨rfl, rfl⟩
      simp only [p_var, p_kint, p_kstr, p_kbl, p_knon, p_glo, p_ty, p_bin, p_un, p_cmp, p_chain, p_and, p_or, p_one, p_not, p_ife, p_tup, p_lst, p_dic, p_mkF, p_mkT, p_bi, p_me, p_ix, p_nil, p_cons, p_pnil, p_pcons, t_nil, t_not, t_and, t_or, t_one, t_tv, t_cmp, t_chain, i_range1, i_range2, i_over, i_overS, p_lc, s_asgLp, s_passp, s_brkp, s_contp, s_seqp, s_fseqp, s_asgp, s_aixp, s_parp, s_retp, s_ret0p, s_ifsp, s_forp, s_dropp, post_ok, post_if, post_bad, post_exc, asgG, asgGs, List.getElem?_cons_zero, List.getElem?_cons_succ, List.set_cons_zero, List.set_cons_succ, Option.some.injEq, exists_eq_left', exists_eq_left, D.int.injEq, D.str.injEq, D.bl.injEq, D.lst.injEq, D.ref.injEq, MO.lst.injEq, o_add, o_sub, o_mul, o_mod, o_div, o_pow, o_addS, o_mulS, o_addL, o_addRL, o_mulL, o_neg, m_eqI, m_neI, m_eqS, m_neS, m_eqB, m_neB, m_lt, m_le, m_gt, m_ge, m_inc, tr_bl, tr_int, tr_non, tr_lst, tr_tup, f_abs, f_int, f_intB, f_boolI, f_str, f_max, f_min, f_isin, y_non, y_bl, y_int, y_str, y_tup, y_lst, y_dct, isi_same, f_lenS, f_lenL, f_lenT, f_lenC, f_listL, f_listT, f_listR, f_all, f_any, f_repr, x_scr, x_str, x_lst, x_tup, x_ref, w_ref, h_append, h_extend, h_strip, it_ref, it_str, it_lst, mT_a, mT_e, mT_s, ov_l, ov_t, Bool.false_eq_true, if_false]
      trivial
    · rintro _ S2 ⟨rfl, rfl⟩
      refine ⟨by decide, false, rfl, ?_⟩
      simp only [k_law_1, p_var, p_kint, p_kstr, p_kbl, p_knon, p_glo, p_ty, p_bin, p_un, p_cmp, p_chain, p_and, p_or, p_one, p_not, p_ife, p_tup, p_lst, p_dic, p_mkF, p_mkT, p_bi, p_me, p_ix, p_nil, p_cons, p_pnil, p_pcons, t_nil, t_not, t_and, t_or, t_one, t_tv, t_cmp, t_chain, i_range1, i_range2, i_over, i_overS, p_lc, s_asgLp, s_passp, s_brkp, s_contp, s_seqp, s_fseqp, s_asgp, s_aixp, s_parp, s_retp, s_ret0p, s_ifsp, s_forp, s_dropp, post_ok, post_if, post_bad, post_exc, asgG, asgGs, List.getElem?_cons_zero, List.getElem?_cons_succ, List.set_cons_zero, List.set_cons_succ, Option.some.injEq, exists_eq_left', exists_eq_left, D.int.injEq, D.str.injEq, D.bl.injEq, D.lst.injEq, D.ref.injEq, MO.lst.injEq, o_add, o_sub, o_mul, o_mod, o_div, o_pow, o_addS, o_mulS, o_addL, o_addRL, o_mulL, o_neg, m_eqI, m_neI, m_eqS, m_neS, m_eqB, m_neB, m_lt, m_le, m_gt, m_ge, m_inc, tr_bl, tr_int, tr_non, tr_lst, tr_tup, f_abs, f_int, f_intB, f_boolI, f_str, f_max, f_min, f_isin, y_non, y_bl, y_int, y_str, y_tup, y_lst, y_dct, isi_same, f_lenS, f_lenL, f_lenT, f_lenC, f_listL, f_listT, f_listR, f_all, f_any, f_repr, x_scr, x_str, x_lst, x_tup, x_ref, w_ref, h_append, h_extend, h_strip, it_ref, it_str, it_lst, mT_a, mT_e, mT_s, ov_l, ov_t, Bool.false_eq_true, if_false, c_law_MAX_LETTERS, c_law_MAX_FIGURES]
      exact ⟨by decide, by decide, true, rfl, rfl⟩
  · obtain ⟨G1, e, q⟩ := law_8 h
    exact ⟨G1, e, q.mono (fun _ _ z => z) (fun _ _ z => z.elim) (fun _ _ z => z.elim) (fun _ _ z => z) (fun _ _ _ z => z.elim)⟩
  · intro y hy
    obtain ⟨j, hj, rfl⟩ := List.mem_map.mp hy
    refine ⟨j, by simp, ?_⟩
    have := List.mem_range.mp hj
    split at this <;> split at this <;> omega
end Lk00
theorem PySem.Challenge.cw_touchrows_k00_whole_names_and_numbers_holds : PySem.Challenge.rw_touchrows_k00_whole_names_and_numbers.Holds :=
  Lk00.holds_of Lk00.true_law
