import PyProof.Rows.All
import Wide.All
import OpenK.AllK
import Wide.FinOn
import HandS.ForMost
import HandS.Wide
import HandS.IsInst
import HandS.Exc
import HandS.ExcOwn
import HandS.ExcCtx
import HandS.CallSlots
import HandS.TupAny
import HandS.RaiseMore
import HandS.Zip
import HandS.WordsExc
import HandS.More
import HandS.Deep
import HandS.Style
import HandS.Rev
import HandS.Text
import KE.GoesMore
import KE.GoesEnum
import HandS.TryOnly
import HandS.TryMany
import HandS.TryElse
import HandS.HotCalls
import HandS.ExcInit
import HandS.ExcIs
import KE.KExcIs
import HandS.Codes
import PyProof.Rows.ListMulArg
import PySem.Challenge.RW_grindbench_k09_benches_looked_at
set_option Elab.async false
set_option linter.all false
set_option maxRecDepth 100000
/-! The data layer: values as data, what stands for them in the abstract heap. -/
namespace DL
open PySem PySem.Spec L2

/-- data: a value with all that it reaches -/
inductive D where
  | non
  | bl (b : Bool)
  | int (i : Int)
  | str (s : Str)
  | tup (xs : List D)
  | lst (xs : List D)
  | dct (ks : List Key) (xs : List D)
  | ins (c : Str) (ns : List Str) (xs : List D)
  /-- an exception; what its `at` holds, if it has one -/
  | exn (c : Str) (xs : List D)
  /-- the object at this address, whatever it holds -/
  | adr (a : Addr)

/-- where the data is read: the written part, the module's names -/
structure RC where
  K : PySem.W.Frag
  mg : Str → Option Value
abbrev rc (X : Cx) : RC := ⟨X.K, X.mg⟩

/-- a list that is read: tracked, frozen, or an object of the module in its plain form -/
def LsR (K : PySem.W.Frag) (H : Hp) (a : Addr) (xs : List V) : Prop :=
  Rd H a (.lst xs) ∨ ∃ (its : List Value) (n : Nat), K.lookup a = some { cls := .type "list", data := .seq its.toArray n } ∧ its.length ≤ sizeLine ∧ Vals xs its
theorem LsR.sq {K : PySem.W.Frag} {H : Hp} {a : Addr} {xs : List V} (h : LsR K H a xs) : SqL K H a xs := by
  rcases h with h | ⟨its, n, hk, hz, r⟩
  · exact .inl h
  · exact .inr ⟨_, its.toArray, n, hk, rfl, rfl, rfl, by simpa using hz, by simpa using r⟩

/-- the object at a is an exception of the class cls, with the dict d -/
def ExP (cls : Value) (d : Option Addr) (a : Addr) : Heap → Prop := fun h => ∃ (oe : Obj) (fv : Array Value), h.get? a = some oe ∧ L2N.Zn cls d oe ∧ oe.data = .fields fv
/-- the dict d is that of an exception whose `at` is what vs holds -/
def ExA (H : Hp) (d : Option Addr) (vs : List V) : Prop := (vs = [] ∧ d = none) ∨ ∃ dx u, vs = [u] ∧ d = some dx ∧ H dx = some (.xd [(("at" : Str), u)])

mutual
def Rep (R : RC) (H : Hp) : D → V → Prop
  | .non, v => v = .non
  | .bl b, v => v = .bl b
  | .int i, v => v = .int i
  | .str s, v => v = .str s
  | .tup ds, v => ∃ a vs, v = .ref a ∧ SqT R.K H a vs ∧ RepL R H ds vs
  | .lst ds, v => ∃ a vs, v = .ref a ∧ LsR R.K H a vs ∧ RepL R H ds vs
  | .dct ks ds, v => ∃ a vs, v = .ref a ∧ Rd H a (.dK (ks.zip vs)) ∧ ks.length = vs.length ∧ RepL R H ds vs
  | .ins c ns ds, v => ∃ a C dx vs, v = .ref a ∧ R.mg c = some (.ref C) ∧ H a = some (.ins C dx (ns.zip vs)) ∧ ns.length = vs.length ∧ RepL R H ds vs
  | .exn c ds, v => ∃ a C dx vs, v = .ref a ∧ R.mg c = some (.ref C) ∧ H a = some (.ext (ExP (.ref C) dx a)) ∧ ExA H dx vs ∧ RepL R H ds vs
  | .adr a, v => v = .ref a
def RepL (R : RC) (H : Hp) : List D → List V → Prop
  | [], vs => vs = []
  | d :: ds, vs => ∃ v ws, vs = v :: ws ∧ Rep R H d v ∧ RepL R H ds ws
end

/-- one heap holds all of the other -/
abbrev Le (H H' : Hp) : Prop := ∀ b o, H b = some o → H' b = some o
theorem Rd.le {H H' : Hp} (h : Le H H') {a : Addr} {u : HO} (r : Rd H a u) : Rd H' a u := by
  rcases r with r | ⟨o, r⟩
  · exact .inl (h _ _ r)
  · exact .inr ⟨o, h _ _ r⟩
theorem LsR.le {K : PySem.W.Frag} {H H' : Hp} (h : Le H H') {a : Addr} {xs : List V} (r : LsR K H a xs) : LsR K H' a xs := by
  rcases r with r | r
  · exact .inl (Rd.le h r)
  · exact .inr r
theorem SqT.le {K : PySem.W.Frag} {H H' : Hp} (h : Le H H') {a : Addr} {xs : List V} (r : SqT K H a xs) : SqT K H' a xs := by
  rcases r with r | r
  · exact .inl (Rd.le h r)
  · exact .inr r
theorem SqL.le {K : PySem.W.Frag} {H H' : Hp} (h : Le H H') {a : Addr} {xs : List V} (r : SqL K H a xs) : SqL K H' a xs := by
  rcases r with r | r
  · exact .inl (Rd.le h r)
  · exact .inr r
theorem ExA.le {H H' : Hp} (h : Le H H') {d : Option Addr} {vs : List V} (x : ExA H d vs) : ExA H' d vs :=
  x.imp id fun ⟨dx, u, e1, e2, e3⟩ => ⟨dx, u, e1, e2, h _ _ e3⟩
mutual
theorem Rep.le {R : RC} {H H' : Hp} (h : Le H H') : ∀ (d : D) (v : V), Rep R H d v → Rep R H' d v
  | .non, _, r => r
  | .bl _, _, r => r
  | .int _, _, r => r
  | .str _, _, r => r
  | .tup ds, v, r => by
    obtain ⟨a, vs, e, s, q⟩ := r
    exact ⟨a, vs, e, SqT.le h s, RepL.le h ds vs q⟩
  | .lst ds, v, r => by
    obtain ⟨a, vs, e, s, q⟩ := r
    exact ⟨a, vs, e, LsR.le h s, RepL.le h ds vs q⟩
  | .dct ks ds, v, r => by
    obtain ⟨a, vs, e, s, l, q⟩ := r
    exact ⟨a, vs, e, Rd.le h s, l, RepL.le h ds vs q⟩
  | .ins c ns ds, v, r => by
    obtain ⟨a, C, dx, vs, e, m, s, l, q⟩ := r
    exact ⟨a, C, dx, vs, e, m, h _ _ s, l, RepL.le h ds vs q⟩
  | .exn c ds, v, r => by
    obtain ⟨a, C, dx, vs, e, m, s, x, q⟩ := r
    exact ⟨a, C, dx, vs, e, m, h _ _ s, x.le h, RepL.le h ds vs q⟩
  | .adr _, _, r => r
theorem RepL.le {R : RC} {H H' : Hp} (h : Le H H') : ∀ (ds : List D) (vs : List V), RepL R H ds vs → RepL R H' ds vs
  | [], _, r => r
  | d :: ds, vs, r => by
    obtain ⟨v, ws, e, p, q⟩ := r
    exact ⟨v, ws, e, Rep.le h d v p, RepL.le h ds ws q⟩
end
theorem RepL.length {R : RC} {H : Hp} : ∀ {ds : List D} {vs : List V}, RepL R H ds vs → vs.length = ds.length
  | [], _, r => by cases (show _ = _ from r); rfl
  | d :: ds, _, r => by
    obtain ⟨v, ws, rfl, _, q⟩ := r
    simp only [List.length_cons, RepL.length q]
theorem RepL.get {R : RC} {H : Hp} : ∀ {ds : List D} {vs : List V} {i : Nat} {d : D}, RepL R H ds vs → ds[i]? = some d → ∃ v, vs[i]? = some v ∧ Rep R H d v
  | [], _, _, _, _, e => by simp at e
  | d :: ds, _, 0, _, r, e => by
    obtain ⟨v, ws, rfl, p, q⟩ := r
    simp at e
    subst e
    exact ⟨v, rfl, p⟩
  | d :: ds, _, i + 1, _, r, e => by
    obtain ⟨v, ws, rfl, p, q⟩ := r
    obtain ⟨w, h1, h2⟩ := RepL.get (i := i) q (by simpa using e)
    exact ⟨w, by simpa using h1, h2⟩
theorem RepL.get' {R : RC} {H : Hp} : ∀ {ds : List D} {vs : List V} {i : Nat} {v : V}, RepL R H ds vs → vs[i]? = some v → ∃ d, ds[i]? = some d ∧ Rep R H d v := fun {ds vs i v} r e => by
  have hi : i < ds.length := by rw [← r.length]; exact (List.getElem?_eq_some_iff.mp e).1
  obtain ⟨w, h1, h2⟩ := RepL.get r (List.getElem?_eq_getElem hi)
  rw [e] at h1
  cases h1
  exact ⟨_, List.getElem?_eq_getElem hi, h2⟩
theorem RepL.app {R : RC} {H : Hp} : ∀ {ds es : List D} {vs ws : List V}, RepL R H ds vs → RepL R H es ws → RepL R H (ds ++ es) (vs ++ ws)
  | [], _, _, _, r, s => by cases (show _ = _ from r); exact s
  | d :: ds, _, _, _, r, s => by
    obtain ⟨v, xs, rfl, p, q⟩ := r
    exact ⟨v, xs ++ _, rfl, p, q.app s⟩
theorem RepL.one {R : RC} {H : Hp} {d : D} {v : V} (r : Rep R H d v) : RepL R H [d] [v] := ⟨v, [], rfl, r, rfl⟩
theorem RepL.take {R : RC} {H : Hp} : ∀ {ds : List D} {vs : List V} (n : Nat), RepL R H ds vs → RepL R H (ds.take n) (vs.take n)
  | _, _, 0, _ => by simp [RepL]
  | [], _, n + 1, r => by cases (show _ = _ from r); simp [RepL]
  | d :: ds, _, n + 1, r => by
    obtain ⟨v, xs, rfl, p, q⟩ := r
    exact ⟨v, _, rfl, p, q.take n⟩
theorem RepL.drop {R : RC} {H : Hp} : ∀ {ds : List D} {vs : List V} (n : Nat), RepL R H ds vs → RepL R H (ds.drop n) (vs.drop n)
  | _, _, 0, r => r
  | [], _, n + 1, r => by cases (show _ = _ from r); simp [RepL]
  | d :: ds, _, n + 1, r => by
    obtain ⟨v, xs, rfl, p, q⟩ := r
    exact q.drop n
theorem RepL.set {R : RC} {H : Hp} {d : D} {v : V} (p : Rep R H d v) : ∀ {ds : List D} {vs : List V} (n : Nat), RepL R H ds vs → RepL R H (ds.set n d) (vs.set n v)
  | [], _, n, r => by cases (show _ = _ from r); simp [RepL]
  | e :: ds, _, 0, r => by
    obtain ⟨w, xs, rfl, _, q⟩ := r
    exact ⟨v, xs, rfl, p, q⟩
  | e :: ds, _, n + 1, r => by
    obtain ⟨w, xs, rfl, p', q⟩ := r
    exact ⟨w, _, rfl, p', q.set p n⟩
theorem RepL.rev {R : RC} {H : Hp} : ∀ {ds : List D} {vs : List V}, RepL R H ds vs → RepL R H ds.reverse vs.reverse
  | [], _, r => by cases (show _ = _ from r); exact rfl
  | d :: ds, _, r => by
    obtain ⟨v, xs, rfl, p, q⟩ := r
    rw [List.reverse_cons, List.reverse_cons]
    exact q.rev.app (.one p)

/-! ### the heap without some addresses -/
open Classical in
noncomputable def hid (A : Addr → Prop) (H : Hp) : Hp := fun b => if A b then none else H b
theorem hid_some {A : Addr → Prop} {H : Hp} {b : Addr} {o : HO} : hid A H b = some o ↔ ¬ A b ∧ H b = some o := by
  unfold hid
  by_cases h : A b
  · rw [if_pos h]; exact ⟨(fun z => nomatch z), fun z => (z.1 h).elim⟩
  · rw [if_neg h]; exact ⟨fun z => ⟨h, z⟩, fun z => z.2⟩
theorem hid_le {A : Addr → Prop} {H : Hp} : Le (hid A H) H := fun _ _ h => (hid_some.mp h).2
theorem hid_mono {A A' : Addr → Prop} {H : Hp} (h : ∀ b, A' b → A b) : Le (hid A H) (hid A' H) := fun b o e => hid_some.mpr ⟨fun z => (hid_some.mp e).1 (h b z), (hid_some.mp e).2⟩

/-! ### the slots -/
inductive Cell where
  | no
  | val (d : D)
  /-- a list (a dict) that nobody else knows -/
  | own (d : D)
abbrev DEnv := List Cell
/-- what an expression gives: data; the list that slot i owns; a list that was just made -/
inductive PV where
  | dat (d : D)
  | pk (i : Nat)
  | fresh (d : D)
/-- the object that owned data stands in -/
def OwnR (R : RC) (H : Hp) (d : D) (ho : HO) : Prop :=
  match d with
  | .lst ds => ∃ vs, ho = .lst vs ∧ RepL R H ds vs
  | .dct ks ds => ∃ vs, ho = .dK (ks.zip vs) ∧ ks.length = vs.length ∧ RepL R H ds vs
  | _ => False
theorem OwnR.le {R : RC} {H H' : Hp} (h : Le H H') {d : D} {ho : HO} (r : OwnR R H d ho) : OwnR R H' d ho := by
  cases d <;> first
    | exact r.elim
    | (obtain ⟨vs, e, q⟩ := r; exact ⟨vs, e, RepL.le h _ _ q⟩)
    | (obtain ⟨vs, e, l, q⟩ := r; exact ⟨vs, e, l, RepL.le h _ _ q⟩)
theorem OwnR.rep {R : RC} {H : Hp} {d : D} {ho : HO} {a : Addr} (r : OwnR R H d ho) (e : H a = some ho) : Rep R H d (.ref a) := by
  cases d <;> first
    | exact r.elim
    | (obtain ⟨vs, rfl, q⟩ := r; exact ⟨a, vs, rfl, .inl (.inl e), q⟩)
    | (obtain ⟨vs, rfl, l, q⟩ := r; exact ⟨a, vs, rfl, .inl e, l, q⟩)
def Own (σ : L2.St) (e : DEnv) (b : Addr) : Prop := ∃ (i : Nat) (d : D), e[i]? = some (.own d) ∧ σ[i]? = some (some (.ref b))

/-- fx: slots whose value stays; A: the addresses that data does not reach -/
structure Abs (R : RC) (fx : List (Nat × V)) (σ : L2.St) (e : DEnv) (A : Addr → Prop) (H : Hp) : Prop where
  len : σ.length = e.length
  fix : ∀ p ∈ fx, σ[p.1]? = some (some p.2)
  val : ∀ (i : Nat) (d : D), e[i]? = some (.val d) → ∃ v, σ[i]? = some (some v) ∧ Rep R (hid A H) d v
  own : ∀ (i : Nat) (d : D), e[i]? = some (.own d) → ∃ (l : Addr) (ho : HO), σ[i]? = some (some (.ref l)) ∧ A l ∧ H l = some ho ∧ OwnR R (hid A H) d ho
  inj : ∀ (i j : Nat) (d d' : D) (l : Addr), e[i]? = some (.own d) → e[j]? = some (.own d') → σ[i]? = some (some (.ref l)) → σ[j]? = some (some (.ref l)) → i = j
  dom : ∀ b, A b → ∃ o, H b = some o
theorem Abs.sub {R : RC} {fx : List (Nat × V)} {σ : St} {e : DEnv} {A : Addr → Prop} {H : Hp} (a : Abs R fx σ e A H) : ∀ b, Own σ e b → A b := fun b ⟨i, d, h1, h2⟩ => by
  obtain ⟨l, ho, h3, h4, _⟩ := a.own i d h1
  rw [h2] at h3
  cases h3
  exact h4

/-- from a state to a later one. M: what may be changed (the owned), A: what data does not reach -/
structure Nxt (M A : Addr → Prop) (H : Hp) (M' A' : Addr → Prop) (H' : Hp) : Prop where
  keep : ∀ b o, ¬ M b → H b = some o → H' b = some o
  sub : ∀ b, A' b → A b ∨ H b = none
  own : ∀ b, M' b → M b ∨ H b = none
  sup : ∀ b, A b → ¬ M b → A' b
  there : ∀ b o, H b = some o → ∃ o', H' b = some o'
theorem Nxt.refl {M A : Addr → Prop} {H : Hp} : Nxt M A H M A H := ⟨fun _ _ _ h => h, fun _ h => .inl h, fun _ h => .inl h, fun _ h _ => h, fun _ o h => ⟨o, h⟩⟩
theorem Nxt.trans {M A M1 A1 M2 A2 : Addr → Prop} {H H1 H2 : Hp} (s : ∀ b, M b → A b) (dm : ∀ b, A b → ∃ o, H b = some o) (x : Nxt M A H M1 A1 H1) (y : Nxt M1 A1 H1 M2 A2 H2) : Nxt M A H M2 A2 H2 where
  keep := fun b o n h => y.keep b o (fun z => by
    rcases x.own b z with z | z
    · exact n z
    · rw [h] at z; cases z) (x.keep b o n h)
  sub := fun b z => by
    rcases y.sub b z with z | z
    · exact x.sub b z
    · cases e : H b with
      | none => exact .inr rfl
      | some o =>
        by_cases m : M b
        · exact .inl (s b m)
        · rw [x.keep b o m e] at z; cases z
  own := fun b z => by
    rcases y.own b z with z | z
    · exact x.own b z
    · cases e : H b with
      | none => exact .inr rfl
      | some o =>
        by_cases m : M b
        · exact .inl m
        · rw [x.keep b o m e] at z; cases z
  sup := fun b a n => y.sup b (x.sup b a n) fun z => by
    rcases x.own b z with z | z
    · exact n z
    · obtain ⟨o, e⟩ := dm b a
      rw [e] at z; cases z
  there := fun b o h => by
    obtain ⟨o', h'⟩ := x.there b o h
    exact y.there b o' h'
theorem Nxt.free {M A M' A' : Addr → Prop} {H H' : Hp} (x : Nxt M A H M' A' H') {b : Addr} (h : H' b = none) : H b = none := by
  cases e : H b with
  | none => rfl
  | some o =>
    obtain ⟨o', h'⟩ := x.there b o e
    rw [h] at h'
    cases h'
theorem Nxt.hid {M A M' A' : Addr → Prop} {H H' : Hp} (s : ∀ b, M b → A b) (x : Nxt M A H M' A' H') : Le (hid A H) (hid A' H') := fun b o e => by
  obtain ⟨n, h⟩ := hid_some.mp e
  refine hid_some.mpr ⟨fun z => ?_, x.keep b o (fun z => n (s b z)) h⟩
  rcases x.sub b z with z | z
  · exact n z
  · rw [h] at z; cases z

/-- v stands for what an expression gave -/
def RepX (R : RC) (σ : L2.St) (e : DEnv) (A : Addr → Prop) (H : Hp) (v : V) : PV → Prop
  | .dat d => Rep R (hid A H) d v
  | .pk i => σ[i]? = some (some v) ∧ ∃ d, e[i]? = some (.own d) ∨ e[i]? = some (.val d)
  | .fresh d => ∃ (l : Addr) (ho : HO), v = .ref l ∧ A l ∧ ¬ Own σ e l ∧ H l = some ho ∧ OwnR R (hid A H) d ho

structure SS where
  σ : L2.St
  e : DEnv
  A : Addr → Prop
  H : Hp
abbrev SS.M (s : SS) : Addr → Prop := Own s.σ s.e
abbrev Sa (R : RC) (fx : List (Nat × V)) (s : SS) : Prop := Abs R fx s.σ s.e s.A s.H
abbrev Sn (s t : SS) : Prop := Nxt s.M s.A s.H t.M t.A t.H
abbrev Sr (R : RC) (s : SS) (v : V) (p : PV) : Prop := RepX R s.σ s.e s.A s.H v p
theorem Sn.refl {s : SS} : Sn s s := Nxt.refl
theorem Sn.trans {R : RC} {fx : List (Nat × V)} {s t u : SS} (a : Sa R fx s) (x : Sn s t) (y : Sn t u) : Sn s u := Nxt.trans a.sub a.dom x y
theorem Sn.hid {R : RC} {fx : List (Nat × V)} {s t : SS} (a : Sa R fx s) (x : Sn s t) : Le (hid s.A s.H) (hid t.A t.H) := Nxt.hid a.sub x

/-- what has been given stands later, too -/
theorem Sr.later {R : RC} {fx : List (Nat × V)} {s t : SS} {v : V} {p : PV} (a : Sa R fx s) (x : Sn s t) (eσ : t.σ = s.σ) (ks : ∀ (i : Nat) (d : D), s.e[i]? = some (.own d) ∨ s.e[i]? = some (.val d) → ∃ d', t.e[i]? = some (.own d') ∨ t.e[i]? = some (.val d')) (r : Sr R s v p) : Sr R t v p := by
  cases p with
  | dat d => exact Rep.le (x.hid a) d v r
  | pk i =>
    obtain ⟨h, d, hd⟩ := r
    exact ⟨by rw [eσ]; exact h, ks i d hd⟩
  | fresh d =>
    obtain ⟨l, ho, rfl, hA, hn, hl, q⟩ := r
    refine ⟨l, ho, rfl, x.sup l hA hn, fun z => ?_, x.keep l ho hn hl, q.le (x.hid a)⟩
    rcases x.own l z with z | z
    · exact hn z
    · rw [hl] at z; cases z
end DL

set_option Elab.async false
set_option linter.all false
set_option maxRecDepth 100000
namespace DL
open PySem PySem.Spec L2

/-- an exception: the name of its class in the module, its value `at` -/
structure Exn where
  c : Str
  a : Option D
inductive EO (α : Type) where
  | ok (a : α) (e : DEnv)
  | ex (x : Exn) (e : DEnv)
  | bot
def EO.bind {α β : Type} (o : EO α) (k : α → DEnv → EO β) : EO β := match o with
  | .ok a e => k a e
  | .ex x e => .ex x e
  | .bot => .bot
def ExR (R : RC) (s : SS) (x : Exn) (cls : Value) (dd : Option Addr) : Prop :=
  ∃ C : Addr, R.mg x.c = some (.ref C) ∧ cls = .ref C ∧ match x.a with
    | none => dd = none
    | some d => ∃ dx v, dd = some dx ∧ hid s.A s.H dx = some (.xd [(("at" : Str), v)]) ∧ Rep R (hid s.A s.H) d v
/-- slots that hold something hold something later -/
def Kp (e e' : DEnv) : Prop := ∀ (i : Nat) (d : D), e[i]? = some (.own d) ∨ e[i]? = some (.val d) → ∃ d', e'[i]? = some (.own d') ∨ e'[i]? = some (.val d')
theorem Kp.refl {e : DEnv} : Kp e e := fun _ d h => ⟨d, h⟩
theorem Kp.trans {e e1 e2 : DEnv} (x : Kp e e1) (y : Kp e1 e2) : Kp e e2 := fun i d h => by
  obtain ⟨d', h'⟩ := x i d h
  exact y i d' h'
/-- a step within an expression -/
structure St1 (R : RC) (fx : List (Nat × V)) (s t : SS) : Prop where
  eq : t.σ = s.σ
  nx : Sn s t
  kp : Kp s.e t.e
  ab : Sa R fx t
theorem St1.refl {R : RC} {fx : List (Nat × V)} {s : SS} (a : Sa R fx s) : St1 R fx s s := ⟨rfl, Sn.refl, Kp.refl, a⟩
theorem St1.trans {R : RC} {fx : List (Nat × V)} {s t u : SS} (a : Sa R fx s) (x : St1 R fx s t) (y : St1 R fx t u) : St1 R fx s u := ⟨y.eq.trans x.eq, Sn.trans a x.nx y.nx, x.kp.trans y.kp, y.ab⟩
theorem Sr.step {R : RC} {fx : List (Nat × V)} {s t : SS} {v : V} {p : PV} (a : Sa R fx s) (x : St1 R fx s t) (r : Sr R s v p) : Sr R t v p := r.later a x.nx x.eq x.kp
/-- a given list that was just made was not there ahead -/
def Fr (H : Hp) (v : V) : PV → Prop
  | .fresh _ => ∀ l, v = .ref l → H l = none
  | _ => True
theorem Fr.back {R : RC} {fx : List (Nat × V)} {s t : SS} {v : V} {p : PV} (x : St1 R fx s t) (h : Fr t.H v p) : Fr s.H v p := by
  cases p with
  | fresh d => exact fun l e => x.nx.free (h l e)
  | dat d => trivial
  | pk i => trivial
/-- how what a step gives stands for what is told -/
structure Rl (R : RC) (fx : List (Nat × V)) (β α : Type) where
  rel : SS → SS → β → α → Prop
  mono : ∀ {s t u : SS} {v : β} {a : α}, St1 R fx s t → rel t u v a → rel s u v a
/-- what is wanted of an outcome -/
def EPost {α β : Type} {R : RC} {fx : List (Nat × V)} (Rel : Rl R fx β α) (W : WX) (s : SS) (Q : β → Hp → Prop) : EO α → Prop
  | .ok a e => ∀ (v : β) (t : SS), t.e = e → St1 R fx s t → Rel.rel s t v a → Q v t.H
  | .ex x e => ∀ (cls : Value) (dd : Option Addr) (t : SS), t.e = e → St1 R fx s t → ExR R t x cls dd → W cls dd t.σ t.H
  | .bot => False
theorem EPost.later {α β : Type} {R : RC} {fx : List (Nat × V)} {Rel : Rl R fx β α} {W : WX} {s t : SS} {Q : β → Hp → Prop} {o : EO α} (a : Sa R fx s) (x : St1 R fx s t) (h : EPost Rel W s Q o) : EPost Rel W t Q o := by
  cases o with
  | ok p e => exact fun v u e1 y r => h v u e1 (x.trans a y) (Rel.mono x r)
  | ex x' e => exact fun c d u e1 y r => h c d u e1 (x.trans a y) r
  | bot => exact h
theorem EPost.bind {α β γ δ : Type} {R : RC} {fx : List (Nat × V)} {Rel : Rl R fx β α} {Rel2 : Rl R fx δ γ} {W : WX} {s : SS} {Q : δ → Hp → Prop} {o : EO α} {k : α → DEnv → EO γ} (a : Sa R fx s) (h : EPost Rel2 W s Q (o.bind k)) :
    EPost Rel W s (fun v H1 => ∃ t p, t.H = H1 ∧ St1 R fx s t ∧ Rel.rel s t v p ∧ EPost Rel2 W t Q (k p t.e) ∧ EPost Rel2 W s Q (k p t.e)) o := by
  cases o with
  | ok p e =>
    intro v t e1 x r
    refine ⟨t, p, rfl, x, r, ?_, ?_⟩
    · rw [e1]
      exact EPost.later a x h
    · rw [e1]
      exact h
  | ex x e => exact h
  | bot => exact h
theorem EPost.mono {α β : Type} {R : RC} {fx : List (Nat × V)} {Rel : Rl R fx β α} {W : WX} {s : SS} {Q Q' : β → Hp → Prop} {o : EO α} (h : EPost Rel W s Q o) (q : ∀ v H, Q v H → Q' v H) : EPost Rel W s Q' o := by
  cases o with
  | ok p e => exact fun v u e1 y r => q _ _ (h v u e1 y r)
  | ex x' e => exact h
  | bot => exact h

abbrev F1 := DEnv → EO PV
abbrev FB := DEnv → EO Bool
abbrev FL := DEnv → EO (List PV)
def SrL (R : RC) (s : SS) : List V → List PV → Prop
  | [], [] => True
  | v :: vs, p :: ps => Sr R s v p ∧ SrL R s vs ps
  | _, _ => False
theorem SrL.step {R : RC} {fx : List (Nat × V)} {s t : SS} (a : Sa R fx s) (x : St1 R fx s t) : ∀ {vs : List V} {ps : List PV}, SrL R s vs ps → SrL R t vs ps
  | [], [], _ => trivial
  | v :: vs, p :: ps, r => ⟨Sr.step a x r.1, SrL.step a x r.2⟩
  | [], _ :: _, r => r.elim
  | _ :: _, [], r => r.elim
def RE (R : RC) (fx : List (Nat × V)) : Rl R fx V PV := ⟨fun s t v p => Sr R t v p ∧ Fr s.H v p, fun x r => ⟨r.1, r.2.back x⟩⟩
def RB (R : RC) (fx : List (Nat × V)) : Rl R fx Bool Bool := ⟨fun _ _ b c => b = c, fun _ r => r⟩
def RL (R : RC) (fx : List (Nat × V)) : Rl R fx (List V) (List PV) := ⟨fun _ t vs ps => SrL R t vs ps, fun _ r => r⟩
def RD (R : RC) (fx : List (Nat × V)) : Rl R fx (List V) (List D) := ⟨fun _ t vs ds => RepL R (hid t.A t.H) ds vs, fun _ r => r⟩
/-- the readings -/
def rd {α β : Type} {R : RC} {fx : List (Nat × V)} (Rel : Rl R fx β α) (W : WX) (f : DEnv → EO α) : L2.St → Hp → (β → Hp → Prop) → Prop := fun σ H Q => ∃ e A, Sa R fx ⟨σ, e, A, H⟩ ∧ EPost Rel W ⟨σ, e, A, H⟩ Q (f e)
def DE (X : Cx) (fx : List (Nat × V)) (W : WX) (e : Expr) (f : F1) : Prop := PE X e (rd (RE (rc X) fx) W f)
def DT (X : Cx) (fx : List (Nat × V)) (W : WX) (e : Expr) (f : FB) : Prop := PT X e (rd (RB (rc X) fx) W f)
def DW (X : Cx) (fx : List (Nat × V)) (W : WX) (e : Expr) (f : FB) : Prop := PW X e (rd (RB (rc X) fx) W f)
def DA (X : Cx) (fx : List (Nat × V)) (W : WX) (es : List Expr) (f : FL) : Prop := PA X es (rd (RL (rc X) fx) W f)
def DD (X : Cx) (fx : List (Nat × V)) (W : WX) (es : List Expr) (f : DEnv → EO (List D)) : Prop := PA X es (rd (RD (rc X) fx) W f)

theorem PE.imp {X : Cx} {e : Expr} {t t' : TE} (h : PE X e t) (i : ∀ σ H Q, t' σ H Q → t σ H Q) : PE X e t' := ⟨fun pins s σ H Q I q => h.run pins s σ H Q I (i σ H Q q)⟩
theorem PT.imp {X : Cx} {e : Expr} {t t' : TT} (h : PT X e t) (i : ∀ σ H Q, t' σ H Q → t σ H Q) : PT X e t' := ⟨fun pins s σ H Q I q => h.run pins s σ H Q I (i σ H Q q)⟩
theorem PW.imp {X : Cx} {e : Expr} {t t' : TT} (h : PW X e t) (i : ∀ σ H Q, t' σ H Q → t σ H Q) : PW X e t' := ⟨fun whole pins s σ H Q I q => h.run whole pins s σ H Q I (i σ H Q q)⟩
theorem PA.imp {X : Cx} {es : List Expr} {t t' : TA} (h : PA X es t) (i : ∀ σ H Q, t' σ H Q → t σ H Q) : PA X es t' := ⟨fun pos pins s σ H Q I q => h.run pos pins s σ H Q I (i σ H Q q)⟩

/-! ### what a given value is worth now -/
def res (p : PV) (e : DEnv) : Option D := match p with
  | .dat d => some d
  | .fresh d => some d
  | .pk i => match e[i]? with
    | some (.own d) => some d
    | some (.val d) => some d
    | _ => none
def resL (ps : List PV) (e : DEnv) : Option (List D) := match ps with
  | [] => some []
  | p :: ps => match res p e with
    | some d => match resL ps e with
      | some ds => some (d :: ds)
      | none => none
    | none => none
/-- v stands for d, what it holds is out of the owned's reach -/
def RepV (R : RC) (s : SS) (d : D) (v : V) : Prop := match d with
  | .lst ds => ∃ (a : Addr) (vs : List V), v = .ref a ∧ LsR R.K s.H a vs ∧ RepL R (hid s.A s.H) ds vs
  | .dct ks ds => ∃ (a : Addr) (vs : List V), v = .ref a ∧ Rd s.H a (.dK (ks.zip vs)) ∧ ks.length = vs.length ∧ RepL R (hid s.A s.H) ds vs
  | d => Rep R (hid s.A s.H) d v
theorem RepV.of {R : RC} {s : SS} {v : V} : ∀ {d : D}, Rep R (hid s.A s.H) d v → RepV R s d v
  | .lst _, r => by obtain ⟨a, vs, e, q, l⟩ := r; exact ⟨a, vs, e, LsR.le hid_le q, l⟩
  | .dct _ _, r => by obtain ⟨a, vs, e, q, n, l⟩ := r; exact ⟨a, vs, e, Rd.le hid_le q, n, l⟩
  | .non, r => r
  | .bl _, r => r
  | .int _, r => r
  | .str _, r => r
  | .tup _, r => r
  | .ins _ _ _, r => r
  | .exn _ _, r => r
  | .adr _, r => r
theorem RepV.own {R : RC} {s : SS} {d : D} {l : Addr} {ho : HO} (e : s.H l = some ho) (r : OwnR R (hid s.A s.H) d ho) : RepV R s d (.ref l) := by
  cases d <;> first
    | exact r.elim
    | (obtain ⟨vs, rfl, q⟩ := r; exact ⟨l, vs, rfl, .inl (.inl e), q⟩)
    | (obtain ⟨vs, rfl, n, q⟩ := r; exact ⟨l, vs, rfl, .inl e, n, q⟩)
theorem RepV.full {R : RC} {s : SS} {v : V} : ∀ {d : D}, RepV R s d v → Rep R s.H d v
  | .lst _, r => by obtain ⟨a, vs, e, q, l⟩ := r; exact ⟨a, vs, e, q, RepL.le hid_le _ _ l⟩
  | .dct _ _, r => by obtain ⟨a, vs, e, q, n, l⟩ := r; exact ⟨a, vs, e, q, n, RepL.le hid_le _ _ l⟩
  | .non, r => r
  | .bl _, r => r
  | .int _, r => r
  | .str _, r => r
  | .tup ds, r => Rep.le hid_le (.tup ds) _ r
  | .ins c n ds, r => Rep.le hid_le (.ins c n ds) _ r
  | .exn c ds, r => Rep.le hid_le (.exn c ds) _ r
  | .adr _, r => r
theorem res_pk {i : Nat} {e : DEnv} {d : D} (h : res (.pk i) e = some d) : e[i]? = some (.own d) ∨ e[i]? = some (.val d) := by
  cases q : e[i]? with
  | none => simp [res, q] at h
  | some c => cases c <;> simp_all [res]
theorem Sr.val {R : RC} {fx : List (Nat × V)} {s : SS} {v : V} {p : PV} {d : D} (a : Sa R fx s) (r : Sr R s v p) (e : res p s.e = some d) : RepV R s d v := by
  cases p with
  | dat d' => cases e; exact .of r
  | fresh d' =>
    cases e
    obtain ⟨l, ho, rfl, hA, hn, hl, q⟩ := r
    exact .own hl q
  | pk i =>
    obtain ⟨h, _⟩ := r
    rcases res_pk e with hc | hc
    · obtain ⟨l, ho, h1, h2, h3, h4⟩ := a.own i _ hc
      rw [h] at h1
      cases h1
      exact .own h3 h4
    · obtain ⟨w, h1, h2⟩ := a.val i _ hc
      rw [h] at h1
      cases h1
      exact .of h2
def RepVL (R : RC) (s : SS) : List D → List V → Prop
  | [], [] => True
  | d :: ds, v :: vs => RepV R s d v ∧ RepVL R s ds vs
  | _, _ => False
theorem SrL.val {R : RC} {fx : List (Nat × V)} {s : SS} (a : Sa R fx s) : ∀ {vs : List V} {ps : List PV} {ds : List D}, SrL R s vs ps → resL ps s.e = some ds → RepVL R s ds vs
  | [], [], ds, _, e => by cases e; trivial
  | v :: vs, p :: ps, ds, r, e => by
    unfold resL at e
    split at e
    · rename_i d h1
      split at e
      · rename_i ds' h2
        cases e
        exact ⟨Sr.val a r.1 h1, SrL.val a r.2 h2⟩
      · cases e
    · cases e
  | [], _ :: _, _, r, _ => r.elim
  | _ :: _, [], _, r, _ => r.elim

/-! ### new objects -/
/-- a new object that data may reach -/
def SS.lay (s : SS) (p : Addr) (ho : HO) : SS := ⟨s.σ, s.e, s.A, upd s.H p ho⟩
/-- a new object of one's own -/
def SS.layO (s : SS) (p : Addr) (ho : HO) : SS := ⟨s.σ, s.e, fun b => b = p ∨ s.A b, upd s.H p ho⟩
section
variable {R : RC} {fx : List (Nat × V)} {s : SS} {p : Addr} {ho : HO}
theorem Sa.ne (a : Sa R fx s) (n : s.H p = none) : ¬ s.A p := fun z => by
  obtain ⟨o, e⟩ := a.dom p z
  rw [n] at e
  cases e
theorem lay_le (n : s.H p = none) : Le s.H (upd s.H p ho) := fun b o e => by rw [upd_ne (ne_of_none e n)]; exact e
theorem lay_hid (n : s.H p = none) : Le (hid s.A s.H) (hid s.A (upd s.H p ho)) := fun b o e => hid_some.mpr ⟨(hid_some.mp e).1, lay_le n _ _ (hid_some.mp e).2⟩
theorem layO_hid (a : Sa R fx s) (n : s.H p = none) : Le (hid s.A s.H) (hid (fun b => b = p ∨ s.A b) (upd s.H p ho)) := fun b o e =>
  hid_some.mpr ⟨fun z => z.elim (fun q => ne_of_none (hid_some.mp e).2 n q) (hid_some.mp e).1, lay_le n _ _ (hid_some.mp e).2⟩
theorem St1.lay (a : Sa R fx s) (n : s.H p = none) : St1 R fx s (s.lay p ho) := by
  refine ⟨rfl, ⟨fun b o _ h => lay_le n _ _ h, fun b h => .inl h, fun b h => .inl h, fun b h _ => h, fun b o h => ⟨o, lay_le n _ _ h⟩⟩, Kp.refl, ?_⟩
  refine ⟨a.len, a.fix, fun i d h => ?_, fun i d h => ?_, a.inj, fun b h => ?_⟩
  · obtain ⟨v, h1, h2⟩ := a.val i d h
    exact ⟨v, h1, Rep.le (lay_hid n) _ _ h2⟩
  · obtain ⟨l, ho', h1, h2, h3, h4⟩ := a.own i d h
    exact ⟨l, ho', h1, h2, lay_le n _ _ h3, h4.le (lay_hid n)⟩
  · obtain ⟨o, e⟩ := a.dom b h
    exact ⟨o, lay_le n _ _ e⟩
theorem St1.layO (a : Sa R fx s) (n : s.H p = none) : St1 R fx s (s.layO p ho) := by
  refine ⟨rfl, ⟨fun b o _ h => lay_le n _ _ h, fun b h => ?_, fun b h => .inl h, fun b h _ => .inr h, fun b o h => ⟨o, lay_le n _ _ h⟩⟩, Kp.refl, ?_⟩
  · rcases h with rfl | h
    · exact .inr n
    · exact .inl h
  refine ⟨a.len, a.fix, fun i d h => ?_, fun i d h => ?_, a.inj, fun b h => ?_⟩
  · obtain ⟨v, h1, h2⟩ := a.val i d h
    exact ⟨v, h1, Rep.le (layO_hid a n) _ _ h2⟩
  · obtain ⟨l, ho', h1, h2, h3, h4⟩ := a.own i d h
    exact ⟨l, ho', h1, .inr h2, lay_le n _ _ h3, h4.le (layO_hid a n)⟩
  · rcases h with rfl | h
    · exact ⟨ho, upd_same⟩
    · obtain ⟨o, e⟩ := a.dom b h
      exact ⟨o, lay_le n _ _ e⟩
theorem Sr.lst {ds : List D} {vs : List V} (a : Sa R fx s) (n : s.H p = none) (r : RepL R (hid s.A s.H) ds vs) : Sr R (s.layO p (.lst vs)) (.ref p) (.fresh (.lst ds)) := by
  refine ⟨p, .lst vs, rfl, .inl rfl, fun z => ?_, upd_same, vs, rfl, RepL.le (layO_hid a n) _ _ r⟩
  exact Sa.ne a n (a.sub p z)
theorem Sr.tup {ds : List D} {vs : List V} (a : Sa R fx s) (n : s.H p = none) (r : RepL R (hid s.A s.H) ds vs) : Sr R (s.lay p (.tup vs)) (.ref p) (.dat (.tup ds)) := by
  refine ⟨p, vs, rfl, .inl (.inl (hid_some.mpr ⟨Sa.ne (s := s) a n, upd_same⟩)), RepL.le (lay_hid n) _ _ r⟩
end

/-! ### to data: what is owned is given away -/
def frz (p : PV) (e : DEnv) : Option (D × DEnv) := match p with
  | .dat d => some (d, e)
  | .fresh d => some (d, e)
  | .pk i => match e[i]? with
    | some (.own d) => some (d, e.set i (.val d))
    | some (.val d) => some (d, e)
    | _ => none
def SS.rel (s : SS) (l : Addr) (e : DEnv) : SS := ⟨s.σ, e, fun b => b ≠ l ∧ s.A b, s.H⟩
theorem rel_hid {A : Addr → Prop} {H : Hp} {l : Addr} : Le (hid A H) (hid (fun b => b ≠ l ∧ A b) H) := hid_mono fun _ h => h.2
section
variable {R : RC} {fx : List (Nat × V)} {s : SS} {v : V} {p : PV} {d : D} {e : DEnv}
theorem frz_ok {b : SS} (ab : Sa R fx b) (x : St1 R fx b s) (r : Sr R s v p) (f : Fr b.H v p) (h : frz p s.e = some (d, e)) : ∃ t : SS, t.e = e ∧ t.H = s.H ∧ St1 R fx b t ∧ Rep R (hid t.A t.H) d v := by
  have a := x.ab
  cases p with
  | dat d' => cases h; exact ⟨s, rfl, rfl, x, r⟩
  | fresh d' =>
    cases h
    obtain ⟨l, ho, rfl, hA, hn, hl, q⟩ := r
    have nb : b.H l = none := f l rfl
    refine ⟨s.rel l s.e, rfl, rfl, ⟨x.eq, ⟨x.nx.keep, fun c z => x.nx.sub c z.2, x.nx.own, fun c z m => ⟨fun q => ?_, x.nx.sup c z m⟩, x.nx.there⟩, x.kp, ?_⟩, ?_⟩
    · subst q
      obtain ⟨o, e⟩ := ab.dom c z
      rw [nb] at e
      cases e
    · refine ⟨a.len, a.fix, fun i d h => ?_, fun i d h => ?_, a.inj, fun c z => a.dom c z.2⟩
      · obtain ⟨w, h1, h2⟩ := a.val i d h
        exact ⟨w, h1, Rep.le rel_hid _ _ h2⟩
      · obtain ⟨l', ho', h1, h2, h3, h4⟩ := a.own i d h
        refine ⟨l', ho', h1, ⟨fun q => ?_, h2⟩, h3, h4.le rel_hid⟩
        subst q
        exact hn ⟨i, d, h, h1⟩
    · exact OwnR.rep (OwnR.le rel_hid q) (hid_some.mpr ⟨fun z => z.1 rfl, hl⟩)
  | pk i =>
    obtain ⟨h1, _⟩ := r
    unfold frz at h
    cases hc : s.e[i]? with
    | none => simp [hc] at h
    | some c =>
      cases c with
      | no => simp [hc] at h
      | val d' =>
        simp [hc] at h
        obtain ⟨rfl, rfl⟩ := h
        obtain ⟨w, h2, h3⟩ := a.val i _ hc
        rw [h1] at h2
        cases h2
        exact ⟨s, rfl, rfl, x, h3⟩
      | own d' =>
        simp [hc] at h
        obtain ⟨rfl, rfl⟩ := h
        obtain ⟨l, ho, h2, hA, hl, q⟩ := a.own i _ hc
        rw [h1] at h2
        cases h2
        have hi : i < s.e.length := (List.getElem?_eq_some_iff.mp hc).1
        have ml : s.M l := ⟨i, _, hc, h1⟩
        have rp : Rep R (hid (fun b => b ≠ l ∧ s.A b) s.H) d' (.ref l) := OwnR.rep (OwnR.le rel_hid q) (hid_some.mpr ⟨fun z => z.1 rfl, hl⟩)
        have get : ∀ (j : Nat) (c : Cell), (s.e.set i (.val d'))[j]? = some c → (j = i ∧ c = .val d') ∨ (j ≠ i ∧ s.e[j]? = some c) := fun j c z => by
          by_cases hj : j = i
          · subst hj
            rw [List.getElem?_set_self hi] at z
            exact .inl ⟨rfl, (Option.some.inj z).symm⟩
          · rw [List.getElem?_set_ne (Ne.symm hj)] at z
            exact .inr ⟨hj, z⟩
        have own' : ∀ c, Own s.σ (s.e.set i (.val d')) c → Own s.σ s.e c ∧ c ≠ l := fun c z => by
          obtain ⟨j, dj, z1, z2⟩ := z
          rcases get j _ z1 with ⟨_, z3⟩ | ⟨hj, z3⟩
          · cases z3
          · refine ⟨⟨j, dj, z3, z2⟩, fun q => ?_⟩
            subst q
            exact hj (a.inj j i dj d' c z3 hc z2 h1)
        refine ⟨s.rel l (s.e.set i (.val d')), rfl, rfl, ⟨x.eq, ⟨x.nx.keep, fun c z => x.nx.sub c z.2, fun c z => x.nx.own c (own' c z).1, fun c z m => ⟨fun q => ?_, x.nx.sup c z m⟩, x.nx.there⟩, ?_, ?_⟩, rp⟩
        · subst q
          rcases x.nx.own c ml with z' | z'
          · exact m z'
          · obtain ⟨o, e⟩ := ab.dom c z
            rw [z'] at e
            cases e
        · refine x.kp.trans fun j dj z => ?_
          by_cases hj : j = i
          · subst hj
            exact ⟨d', .inr (List.getElem?_set_self hi)⟩
          · exact ⟨dj, by
              show (s.e.set i (.val d'))[j]? = _ ∨ (s.e.set i (.val d'))[j]? = _
              rw [List.getElem?_set_ne (Ne.symm hj)]
              exact z⟩
        · refine ⟨by show s.σ.length = (s.e.set i (.val d')).length; rw [List.length_set]; exact a.len, a.fix, fun j dj z => ?_, fun j dj z => ?_, fun j k dj dk c z1 z2 => ?_, fun c z => a.dom c z.2⟩
          · rcases get j _ z with ⟨rfl, z3⟩ | ⟨hj, z3⟩
            · cases z3
              exact ⟨.ref l, h1, rp⟩
            · obtain ⟨w, q1, q2⟩ := a.val j dj z3
              exact ⟨w, q1, Rep.le rel_hid _ _ q2⟩
          · rcases get j _ z with ⟨rfl, z3⟩ | ⟨hj, z3⟩
            · cases z3
            · obtain ⟨l', ho', q1, q2, q3, q4⟩ := a.own j dj z3
              refine ⟨l', ho', q1, ⟨fun q => ?_, q2⟩, q3, q4.le rel_hid⟩
              subst q
              exact hj (a.inj j i dj d' _ z3 hc q1 h1)
          · rcases get j _ z1 with ⟨_, z3⟩ | ⟨hj, z3⟩
            · cases z3
            · rcases get k _ z2 with ⟨_, z4⟩ | ⟨hk, z4⟩
              · cases z4
              · exact a.inj j k dj dk c z3 z4
end
end DL

set_option Elab.async false
set_option linter.all false
set_option maxRecDepth 100000
namespace DL
open PySem PySem.Spec L2

theorem EPost.bnd {α β γ δ : Type} {R : RC} {fx : List (Nat × V)} {Rel : Rl R fx β α} {Rel2 : Rl R fx δ γ} {W : WX} {s : SS} {Q : δ → Hp → Prop} {o : EO α} {k : α → DEnv → EO γ} (a : Sa R fx s) (h : EPost Rel2 W s Q (o.bind k)) :
    EPost Rel W s (fun v H1 => ∃ e1 A1 p, St1 R fx s ⟨s.σ, e1, A1, H1⟩ ∧ Rel.rel s ⟨s.σ, e1, A1, H1⟩ v p ∧ EPost Rel2 W ⟨s.σ, e1, A1, H1⟩ Q (k p e1) ∧ EPost Rel2 W s Q (k p e1)) o :=
  (EPost.bind a h).mono fun v H1 ⟨t, p, e, x, r, h1, h2⟩ => by
    obtain ⟨σ1, e1, A1, H2⟩ := t
    obtain rfl : σ1 = s.σ := x.eq
    subst e
    exact ⟨e1, A1, p, x, r, h1, h2⟩
section
variable {X : Cx} {fx : List (Nat × V)} {W : WX} {pos : Pos} {a b c : Expr} {f g h : F1}

/-! ### names, constants -/
def eVar (i : Nat) : F1 := fun e => match e[i]? with
  | some (.val d) => .ok (.dat d) e
  | some (.own _) => .ok (.pk i) e
  | _ => .bot
theorem de_var {i : Nat} {x : Str} (hN : X.N[i]? = some x) (hv : Vis X.env.scope x) (hd : (x == ("__debug__" : Str)) = false := by decide) (hcd : (x == ("__classdict__" : Str)) = false := by decide) : DE X fx W (.Name x pos) (eVar i) := by
  refine PE.imp (pe_var hN hv hd hcd) fun σ H Q h => ?_
  obtain ⟨e, A, a0, h⟩ := h
  unfold eVar at h
  cases hc : e[i]? with
  | none => simp only [hc] at h; exact h.elim
  | some c =>
    cases c with
    | no => simp only [hc] at h; exact h.elim
    | val d =>
      simp only [hc] at h
      obtain ⟨v, h1, h2⟩ := a0.val i d hc
      exact ⟨v, h1, h v _ rfl (.refl a0) ⟨h2, trivial⟩⟩
    | own d =>
      simp only [hc] at h
      obtain ⟨l, ho, h1, _⟩ := a0.own i d hc
      exact ⟨_, h1, h (.ref l) _ rfl (.refl a0) ⟨⟨h1, d, .inl hc⟩, trivial⟩⟩
/-- a value that reaches nothing -/
def eC (d : D) : F1 := fun e => .ok (.dat d) e
theorem de_const {x : Expr} {v : V} {d : D} (hp : PE X x (tC v)) (hr : ∀ R H, Rep R H d v) : DE X fx W x (eC d) := by
  refine PE.imp hp fun σ H Q h => ?_
  obtain ⟨e, A, a0, h⟩ := h
  exact h v _ rfl (.refl a0) ⟨hr _ _, trivial⟩
theorem de_int {i : Int} {j} : DE X fx W (.Constant (.int i) j pos) (eC (.int i)) := de_const pe_int fun _ _ => rfl
theorem de_bl {i : Bool} {j} : DE X fx W (.Constant (.bool i) j pos) (eC (.bl i)) := de_const pe_bl fun _ _ => rfl
theorem de_non {j} : DE X fx W (.Constant .none j pos) (eC .non) := de_const pe_non fun _ _ => rfl
theorem de_str {i : Str} {j} : DE X fx W (.Constant (.str i) j pos) (eC (.str i)) := de_const pe_str fun _ _ => rfl
/-- a constant of the module, by what stands there -/
theorem de_glob {x : Str} {v : V} {u : Value} {d : D} (hg : Gl X x) (hm : X.mg x = some u) (r : RelV v u) (hr : ∀ H, Rep (rc X) H d v) (hd : (x == ("__debug__" : Str)) = false := by decide) : DE X fx W (.Name x pos) (eC d) := by
  refine PE.imp (pe_glob hg hm r hd) fun σ H Q h => ?_
  obtain ⟨e, A, a0, h⟩ := h
  exact h v _ rfl (.refl a0) ⟨hr _, trivial⟩

/-! ### displays -/
def eItems : List F1 → DEnv → EO (List D)
  | [], e => .ok [] e
  | f :: fs, e => (f e).bind fun p e1 => match frz p e1 with
    | some (d, e2) => (eItems fs e2).bind fun ds e3 => .ok (d :: ds) e3
    | none => .bot
theorem eItems_len : ∀ {fs : List F1} {e e' : DEnv} {ds : List D}, eItems fs e = .ok ds e' → ds.length = fs.length
  | [], _, _, _, h => by cases h; rfl
  | f :: fs, e, e', ds, h => by
    unfold eItems at h
    cases q0 : f e with
    | ex x e => rw [q0] at h; cases h
    | bot => rw [q0] at h; cases h
    | ok p e1 =>
    rw [q0] at h
    dsimp only [EO.bind] at h
    cases q1 : frz p e1 with
    | none => rw [q1] at h; cases h
    | some z =>
    obtain ⟨d, e2⟩ := z
    rw [q1] at h
    dsimp only at h
    cases q : eItems fs e2 with
    | ok ds' e3 =>
      rw [q] at h
      cases h
      simp [eItems_len q]
    | ex x e => rw [q] at h; cases h
    | bot => rw [q] at h; cases h
theorem dd_nil : DD X fx W [] (eItems []) := PA.imp pa_nil fun σ H Q h => by
  obtain ⟨e, A, a0, h⟩ := h
  exact h [] _ rfl (.refl a0) rfl
theorem dd_cons {es : List Expr} {fs : List F1} (ha : DE X fx W a f) (hr : DD X fx W es (eItems fs)) (hs : starEach (a :: es) X.env = (false, eval a X.env) :: starEach es X.env := by rfl) : DD X fx W (a :: es) (eItems (f :: fs)) := by
  refine PA.imp (pa_cons ha hr hs) fun σ H Q h => ?_
  obtain ⟨e, A, a0, h⟩ := h
  refine ⟨e, A, a0, (EPost.bnd a0 h).mono fun v H1 ⟨e1, A1, p, x1, r1, _, h1⟩ => ?_⟩
  cases hf : frz p e1 with
  | none => rw [hf] at h1; exact h1.elim
  | some z =>
    obtain ⟨d, e2⟩ := z
    rw [hf] at h1
    obtain ⟨⟨σ2, e2', A2, H2⟩, rfl, rfl, x2, rd⟩ := frz_ok a0 x1 r1.1 r1.2 hf
    obtain rfl : σ2 = σ := x2.eq
    have h2 := EPost.later a0 x2 h1
    refine ⟨e2', A2, x2.ab, (EPost.bnd x2.ab h2).mono fun vs H3 ⟨e3, A3, ds, x3, r3, h3, _⟩ => ?_⟩
    exact h3 (v :: vs) _ rfl (.refl x3.ab) ⟨v, vs, rfl, Rep.le (x3.nx.hid x2.ab) _ _ rd, r3⟩
def eTup (fs : List F1) : F1 := fun e => (eItems fs e).bind fun ds e1 => .ok (.dat (.tup ds)) e1
def eLst (fs : List F1) : F1 := fun e => (eItems fs e).bind fun ds e1 => .ok (.fresh (.lst ds)) e1
theorem le1000 {n : Nat} (h : n ≤ 1000) : n ≤ sizeLine := Nat.le_trans h (by rw [sizeLine_eq]; decide)
/-- what is known of an outcome's value -/
theorem EPost.and {α β : Type} {R : RC} {fx : List (Nat × V)} {Rel : Rl R fx β α} {W : WX} {s : SS} {Q : β → Hp → Prop} {P : β → Prop} {o : EO α} (h : EPost Rel W s Q o) (p : ∀ v t a e, o = .ok a e → Rel.rel s t v a → P v) : EPost Rel W s (fun v H => Q v H ∧ P v) o := by
  cases o with
  | ok a e => exact fun v t e1 x r => ⟨h v t e1 x r, p v t a e rfl r⟩
  | ex x e => exact h
  | bot => exact h
theorem de_tup {es : List Expr} {fs : List F1} {x1} (h : DD X fx W es (eItems fs)) (hl : fs.length ≤ 1000 := by decide) : DE X fx W (.Tuple es x1 pos) (eTup fs) := by
  refine PE.imp (pe_tup h) fun σ H Q q => ?_
  obtain ⟨e, A, a0, q⟩ := q
  refine ⟨e, A, a0, ((EPost.bnd a0 q).and (P := fun vs => vs.length ≤ 1000) fun vs t ds e1 ho r => ?_).mono fun vs H1 ⟨⟨e1, A1, ds, x1, r1, h1, _⟩, hz⟩ => ⟨le1000 hz, fun p hp => ?_⟩⟩
  · rw [RepL.length r, eItems_len ho]
    exact hl
  · exact h1 (.ref p) (SS.lay ⟨σ, e1, A1, H1⟩ p (.tup vs)) rfl (.lay x1.ab hp) ⟨Sr.tup x1.ab hp r1, trivial⟩
theorem de_lst {es : List Expr} {fs : List F1} (h : DD X fx W es (eItems fs)) (hl : fs.length ≤ 1000 := by decide) : DE X fx W (.List es pos) (eLst fs) := by
  refine PE.imp (pe_lst h) fun σ H Q q => ?_
  obtain ⟨e, A, a0, q⟩ := q
  refine ⟨e, A, a0, ((EPost.bnd a0 q).and (P := fun vs => vs.length ≤ 1000) fun vs t ds e1 ho r => ?_).mono fun vs H1 ⟨⟨e1, A1, ds, x1, r1, h1, _⟩, hz⟩ => ⟨le1000 hz, fun p hp => ?_⟩⟩
  · rw [RepL.length r, eItems_len ho]
    exact hl
  · exact h1 (.ref p) (SS.layO ⟨σ, e1, A1, H1⟩ p (.lst vs)) rfl (.layO x1.ab hp) ⟨Sr.lst x1.ab hp r1, fun l e => by cases e; exact hp⟩
def eDct0 : F1 := fun e => .ok (.fresh (.dct [] [])) e
theorem de_dct0 : DE X fx W (.Dict [] [] pos) eDct0 := by
  refine PE.imp pe_dnewK fun σ H Q q => ?_
  obtain ⟨e, A, a0, q⟩ := q
  intro p hp
  refine q (.ref p) (SS.layO ⟨σ, e, A, H⟩ p (.dK [])) rfl (.layO a0 hp) ⟨⟨p, .dK [], rfl, .inl rfl, fun z => Sa.ne a0 hp (a0.sub p z), upd_same, [], rfl, rfl, rfl⟩, fun l e => by cases e; exact hp⟩

/-! ### operations on two values -/
/-- how the operation f on values that stand for data goes -/
def OpD (X : Cx) (fx : List (Nat × V)) (f : Value → Value → Sem Value) (g : D → D → Option PV) : Prop :=
  ∃ r : R2, OpR X f r ∧ ∀ (s : SS) (x y : V) (d1 d2 : D) (pv : PV) (Q : VK), Sa (rc X) fx s → RepV (rc X) s d1 x → RepV (rc X) s d2 y → g d1 d2 = some pv →
    (∀ v t, t.e = s.e → St1 (rc X) fx s t → Sr (rc X) t v pv → Fr s.H v pv → Q v t.H) → r x y s.H Q
def pOp (g : D → D → Option PV) (p q : PV) (e : DEnv) : EO PV := match res p e, res q e with
  | some d1, some d2 => match g d1 d2 with
    | some r => .ok r e
    | none => .bot
  | _, _ => .bot
def eOp (g : D → D → Option PV) (f1 f2 : F1) : F1 := fun e => (f1 e).bind fun p e1 => (f2 e1).bind fun q e2 => pOp g p q e2
theorem pOp_post {k : Value → Value → Sem Value} {gg : D → D → Option PV} {r : R2} {s : SS} {x y : V} {p q : PV} {Q : VK}
    (hq : ∀ (s : SS) (x y : V) (d1 d2 : D) (pv : PV) (Q : VK), Sa (rc X) fx s → RepV (rc X) s d1 x → RepV (rc X) s d2 y → gg d1 d2 = some pv → (∀ v t, t.e = s.e → St1 (rc X) fx s t → Sr (rc X) t v pv → Fr s.H v pv → Q v t.H) → r x y s.H Q)
    (a : Sa (rc X) fx s) (rx : Sr (rc X) s x p) (ry : Sr (rc X) s y q) (h : EPost (RE (rc X) fx) W s Q (pOp gg p q s.e)) : r x y s.H Q := by
  unfold pOp at h
  cases e1 : res p s.e with
  | none => simp only [e1] at h; exact h.elim
  | some d1 =>
    cases e2 : res q s.e with
    | none => simp only [e1, e2] at h; exact h.elim
    | some d2 =>
      simp only [e1, e2] at h
      cases e3 : gg d1 d2 with
      | none => simp only [e3] at h; exact h.elim
      | some pv =>
        simp only [e3] at h
        exact hq s x y d1 d2 pv Q a (Sr.val a rx e1) (Sr.val a ry e2) e3 fun v t et st sr fr => h v t et st ⟨sr, fr⟩
theorem op2 {k : Value → Value → Sem Value} {gg : D → D → Option PV} {r : R2}
    (hq : ∀ (s : SS) (x y : V) (d1 d2 : D) (pv : PV) (Q : VK), Sa (rc X) fx s → RepV (rc X) s d1 x → RepV (rc X) s d2 y → gg d1 d2 = some pv → (∀ v t, t.e = s.e → St1 (rc X) fx s t → Sr (rc X) t v pv → Fr s.H v pv → Q v t.H) → r x y s.H Q)
    {σ : L2.St} {H : Hp} {Q : VK} (q : rd (RE (rc X) fx) W (eOp gg f g) σ H Q) : tOp r (rd (RE (rc X) fx) W f) (rd (RE (rc X) fx) W g) σ H Q := by
  obtain ⟨e, A, a0, q⟩ := q
  refine ⟨e, A, a0, (EPost.bnd a0 q).mono fun x H1 ⟨e1, A1, p, x1, r1, h1, _⟩ => ?_⟩
  refine ⟨e1, A1, x1.ab, (EPost.bnd x1.ab h1).mono fun y H2 ⟨e2, A2, q, x2, r2, h2, _⟩ => ?_⟩
  exact pOp_post (s := ⟨σ, e2, A2, H2⟩) (k := k) hq x2.ab (Sr.step x1.ab x2 r1.1) r2.1 h2
theorem de_op {op : Operator} {gg : D → D → Option PV} (ho : OpD X fx (binaryOp op) gg) (ha : DE X fx W a f) (hb : DE X fx W b g) : DE X fx W (.BinOp a op b pos) (eOp gg f g) := by
  obtain ⟨r, hr, hq⟩ := ho
  exact PE.imp (pe_op hr ha hb) fun σ H Q h => op2 (k := binaryOp op) hq h
theorem de_cmp {op : CmpOp} {gg : D → D → Option PV} (ho : OpD X fx (compareOp op) gg) (ha : DE X fx W a f) (hb : DE X fx W b g) (hm : behindInMarks op b = false) : DE X fx W (.Compare a [op] [b] pos) (eOp gg f g) := by
  obtain ⟨r, hr, hq⟩ := ho
  exact PE.imp (pe_cmpR hr ha hb hm) fun σ H Q h => op2 (k := compareOp op) hq h
/-- a result that reaches no new object -/
theorem keep_dat {s : SS} {pv : D} {v : V} {Q : VK} (a0 : Sa (rc X) fx s) (k : ∀ v t, t.e = s.e → St1 (rc X) fx s t → Sr (rc X) t v (.dat pv) → Fr s.H v (.dat pv) → Q v t.H) (r : Rep (rc X) (hid s.A s.H) pv v) : Q v s.H := k v s rfl (.refl a0) r trivial
end
end DL

set_option Elab.async false
set_option linter.all false
set_option maxRecDepth 100000
namespace DL
open PySem PySem.Spec L2
section
variable {X : Cx} {fx : List (Nat × V)} {W : WX} {pos : Pos}

theorem szle {n : Nat} (h : n ≤ 1000000) : n ≤ sizeLine := Nat.le_trans h (by rw [sizeLine_eq]; decide)
/-- a list that is to be read -/
theorem Inv.lstR {pins : List (Addr × Obj)} {σ : L2.St} {H : Hp} {s : Shared} {l : Addr} {xs : List V} (I : Inv X pins σ H s) (hH : LsR X.K H l xs) :
    xs.length ≤ sizeLine ∧ ∃ (its : List Value) (n : Nat), Vals xs its ∧ xs.length = its.length ∧ s.heap.get? l = some { cls := .type "list", data := .seq its.toArray n } := by
  rcases hH with hH | ⟨its, n, hk, hz, r⟩
  · obtain ⟨z, its, n, r, e⟩ := hH.ok I.hok
    exact ⟨z, its, n, r, r.length, e⟩
  · exact ⟨by rw [r.length]; exact hz, its, n, r, r.length, I.kIn _ _ hk⟩
def rCatR (K : PySem.W.Frag) : R2 := fun x y H Q => ∃ l b xs zs, x = .ref l ∧ y = .ref b ∧ LsR K H l xs ∧ LsR K H b zs ∧ xs.length + zs.length ≤ sizeLine ∧ ∀ p, H p = none → Q (.ref p) (upd H p (.lst (xs ++ zs)))
/-- two readable lists put together: by the library's own rule for the sum of two lists that lie in the heap -/
theorem op_catR : OpR X (binaryOp .Add) (rCatR X.K) := fun _pins _s _σ _H _x _y v u _Q I rx ry ⟨l, b, xs, zs, ex, ey, rl, rb, room, q⟩ => by
  subst ex ey
  obtain rfl : v = Value.ref l := rx
  obtain rfl : u = Value.ref b := ry
  have ⟨_, ws, _, vw, lw, ew⟩ := Inv.lstR I rl
  have ⟨_, ws', _, vw', lw', ew'⟩ := Inv.lstR I rb
  have sum : ws.toArray.size + ws'.toArray.size ≤ sizeLine := by simp only [List.size_toArray]; omega
  refine PySem.P.add_list ew ew' ?both sum
  case both =>
    have len : (xs ++ zs).length ≤ sizeLine := by rw [List.length_append]; exact room
    rw [show ws.toArray ++ ws'.toArray = (ws ++ ws').toArray from by simp]
    exact ⟨V.ref _, _, I.lnew (t' := _) (vw.append vw') len, rfl, q _ I.fresh⟩

/-! ### + - * // % ** >> -/
def addD : D → D → Option PV
  | .int i, .int j => some (.dat (.int (i + j)))
  | .str x, .str y => if x.length + y.length ≤ 1000000 then some (.dat (.str (x ++ y))) else none
  | .lst xs, .lst ys => if xs.length + ys.length ≤ 1000000 then some (.fresh (.lst (xs ++ ys))) else none
  | .tup xs, .tup ys => if xs.length + ys.length ≤ 1000000 then some (.dat (.tup (xs ++ ys))) else none
  | _, _ => none
theorem RepV.ref_lst {R : RC} {s : SS} {ds : List D} {v : V} (r : RepV R s (.lst ds) v) : ∃ (a : Addr) (vs : List V), v = .ref a ∧ LsR R.K s.H a vs ∧ RepL R (hid s.A s.H) ds vs := r
theorem RepV.ref_tup {R : RC} {s : SS} {ds : List D} {v : V} (r : RepV R s (.tup ds) v) : ∃ (a : Addr) (vs : List V), v = .ref a ∧ SqT R.K (hid s.A s.H) a vs ∧ RepL R (hid s.A s.H) ds vs := r
theorem od_add : OpD X fx (binaryOp .Add) addD := by
  refine ⟨_, op_add.or (op_add_str.or (op_catR.or op_catA)), ?_⟩
  intro s x y d1 d2 pv Q a rx ry e k
  unfold addD at e
  split at e
  · cases e
    exact .inl ⟨_, _, rx, ry, keep_dat a k rfl⟩
  · split at e <;> cases e
    rename_i hz
    exact .inr (.inl ⟨_, _, rx, ry, szle hz, keep_dat a k rfl⟩)
  · split at e <;> cases e
    rename_i hz
    obtain ⟨p, vs, rfl, h1, h2⟩ := RepV.ref_lst rx
    obtain ⟨q, ws, rfl, h3, h4⟩ := RepV.ref_lst ry
    refine .inr (.inr (.inl ⟨p, q, vs, ws, rfl, rfl, h1, h3, by rw [RepL.length h2, RepL.length h4]; exact szle hz, fun l hl => ?_⟩))
    exact k (.ref l) (s.layO l (.lst (vs ++ ws))) rfl (.layO a hl) (Sr.lst a hl (h2.app h4)) fun l' e => by cases e; exact hl
  · split at e <;> cases e
    rename_i hz
    obtain ⟨p, vs, rfl, h1, h2⟩ := RepV.ref_tup rx
    obtain ⟨q, ws, rfl, h3, h4⟩ := RepV.ref_tup ry
    refine .inr (.inr (.inr ⟨p, q, vs, ws, rfl, rfl, SqT.le hid_le h1, SqT.le hid_le h3, by rw [RepL.length h2, RepL.length h4]; exact szle hz, fun e1 => ?_, fun _ e2 => ?_, fun _ _ l hl => ?_⟩))
    · subst e1
      have e3 := RepL.length h2
      have e4 : _ = [] := List.eq_nil_of_length_eq_zero e3.symm
      subst e4
      exact keep_dat a k ⟨q, ws, rfl, h3, h4⟩
    · subst e2
      have e3 := RepL.length h4
      have e4 : _ = [] := List.eq_nil_of_length_eq_zero e3.symm
      subst e4
      rw [List.append_nil] at k
      exact keep_dat a k ⟨p, vs, rfl, h1, h2⟩
    · exact k (.ref l) (s.lay l (.tup (vs ++ ws))) rfl (.lay a hl) (Sr.tup a hl (h2.app h4)) trivial
  · cases e
def subD : D → D → Option PV
  | .int i, .int j => some (.dat (.int (i - j)))
  | _, _ => none
theorem od_sub : OpD X fx (binaryOp .Sub) subD := by
  refine ⟨_, op_sub, ?_⟩
  intro s x y d1 d2 pv Q a rx ry e k
  unfold subD at e
  split at e <;> cases e
  exact ⟨_, _, rx, ry, keep_dat a k rfl⟩
instance decMul {i j : Int} : Decidable (IntMulOk i j) := by unfold IntMulOk; infer_instance
theorem op_mulA : OpR X (binaryOp .Mult) (rI (fun i j => IntMulOk i j) fun i j => .int (i * j)) := opI fun _ _ _ _ _ _ _ hc q => PyProof.Rows.mul_int q hc
def mulD : D → D → Option PV
  | .int i, .int j => if IntMulOk i j then some (.dat (.int (i * j))) else none
  | _, _ => none
theorem RepL.repl {R : RC} {H : Hp} {ds : List D} {vs : List V} (r : RepL R H ds vs) : ∀ n : Nat, RepL R H (List.replicate n ds).flatten (List.replicate n vs).flatten
  | 0 => rfl
  | n + 1 => by
    rw [List.replicate_succ, List.replicate_succ, List.flatten_cons, List.flatten_cons]
    exact r.app (RepL.repl r n)
theorem od_mul : OpD X fx (binaryOp .Mult) mulD := by
  refine ⟨_, op_mulA, ?_⟩
  intro s x y d1 d2 pv Q a rx ry e k
  unfold mulD at e
  split at e
  · split at e <;> cases e
    rename_i hz
    exact ⟨_, _, rx, ry, hz, keep_dat a k rfl⟩
  · cases e
theorem op_divA : OpR X (binaryOp .FloorDiv) (rI (fun i j => j ≠ 0 ∧ Builtin.divisionGoesByPylong i j = false) fun i j => .int (i.fdiv j)) := opI fun _ _ _ _ _ _ _ hc q => PyProof.Rows.floordiv_int hc.1 q (.inl hc.2)
def divD : D → D → Option PV
  | .int i, .int j => if j ≠ 0 ∧ Builtin.divisionGoesByPylong i j = false then some (.dat (.int (i.fdiv j))) else none
  | _, _ => none
theorem od_div : OpD X fx (binaryOp .FloorDiv) divD := by
  refine ⟨_, op_divA, ?_⟩
  intro s x y d1 d2 pv Q a rx ry e k
  unfold divD at e
  split at e
  · split at e <;> cases e
    rename_i hz
    exact ⟨_, _, rx, ry, hz, keep_dat a k rfl⟩
  · cases e
def modD : D → D → Option PV
  | .int i, .int j => if j ≠ 0 then some (.dat (.int (i.fmod j))) else none
  | _, _ => none
theorem od_mod : OpD X fx (binaryOp .Mod) modD := by
  refine ⟨_, op_modN, ?_⟩
  intro s x y d1 d2 pv Q a rx ry e k
  unfold modD at e
  split at e
  · split at e <;> cases e
    rename_i hz
    exact ⟨_, _, rx, ry, hz, keep_dat a k rfl⟩
  · cases e
instance decPow {i j : Int} : Decidable (CPow i j) := by unfold CPow; infer_instance
def powD : D → D → Option PV
  | .int i, .int j => if CPow i j then some (.dat (.int (i ^ j.toNat))) else none
  | _, _ => none
theorem od_pow : OpD X fx (binaryOp .Pow) powD := by
  refine ⟨_, op_pow, ?_⟩
  intro s x y d1 d2 pv Q a rx ry e k
  unfold powD at e
  split at e
  · split at e <;> cases e
    rename_i hz
    exact ⟨_, _, rx, ry, hz, keep_dat a k rfl⟩
  · cases e
def shrD : D → D → Option PV
  | .int i, .int j => if 0 ≤ j then some (.dat (.int (i / 2 ^ j.toNat))) else none
  | _, _ => none
theorem od_shr : OpD X fx (binaryOp .RShift) shrD := by
  refine ⟨_, op_shr, ?_⟩
  intro s x y d1 d2 pv Q a rx ry e k
  unfold shrD at e
  split at e
  · split at e <;> cases e
    rename_i hz
    exact ⟨_, _, rx, ry, hz, keep_dat a k rfl⟩
  · cases e

/-! ### comparisons -/
def bD (b : Bool) : Option PV := some (.dat (.bl b))
def ltD : D → D → Option PV
  | .int i, .int j => bD (decide (i < j))
  | .bl p, .int j => bD (decide ((if p = true then 1 else 0) < j))
  | _, _ => none
def leD : D → D → Option PV
  | .int i, .int j => bD (decide (i ≤ j))
  | _, _ => none
def gtD : D → D → Option PV
  | .int i, .int j => bD (decide (j < i))
  | _, _ => none
def geD : D → D → Option PV
  | .int i, .int j => bD (decide (j ≤ i))
  | _, _ => none
/-- a bool is less than an int as its number is -/
theorem gives_lt_bi (p : Bool) (j : Int) (u : Tok) : Gives (Builtin.«int.__lt__» ⟨[.bool p, .int j u], []⟩) (.val (.bool (decide ((if p = true then (1 : Int) else 0) < j)))) := .of_eq rfl
theorem lt_bi {prog : Program} {w : World} {A : Around} {E : Value → Shared → Prop} {Q : Value → Shared → Prop} (s : Shared) (p : Bool) (j : Int) (u : Tok) (h : Q (.bool (decide ((if p = true then (1 : Int) else 0) < j))) s) :
    wpAny (model prog w) A (compareOp .Lt (.bool p) (.int j u)) Q E s := by
  show wpAny (model prog w) A (richCompare .Lt (.bool p) (.int j u)) Q E s
  refine SeqAt.rc_left_or (Ta := "bool") rfl (typeIs_int s j u) (by decide) F.sub_int_bool F.slot_bool_lt ?_ (.inl rfl)
  refine call_gives (T := "bool") (self := .bool p) (rest := [.int j u]) F.slot_bool_lt rfl F.entry_int_lt (F.args_int_lt_2 _ _) (gives_lt_bi p j u) ?_
  exact ⟨nofun, h⟩
theorem op_lt_bi : OpR X (compareOp .Lt) (fun x y H Q => ∃ (p : Bool) (j : Int), x = .bl p ∧ y = .int j ∧ Q (.bl (decide ((if p = true then (1 : Int) else 0) < j))) H) := by
  intro pins s σ H x y v u Q I rx ry h
  obtain ⟨p, j, rfl, rfl, q⟩ := h
  cases rx
  obtain ⟨t, rfl⟩ := ry
  exact lt_bi s p j t ⟨.bl (decide ((if p = true then (1 : Int) else 0) < j)), H, I, rfl, q⟩
theorem od_lt : OpD X fx (compareOp .Lt) ltD := by
  refine ⟨fun x y H Q => (∃ i j, x = .int i ∧ y = .int j ∧ Q (.bl (decide (i < j))) H) ∨ (∃ (p : Bool) (j : Int), x = .bl p ∧ y = .int j ∧ Q (.bl (decide ((if p = true then (1 : Int) else 0) < j))) H), ?_, ?_⟩
  · intro pins s σ H x y v u Q I rx ry h
    rcases h with h | h
    · exact op_lt pins s σ H x y v u Q I rx ry h
    · exact op_lt_bi pins s σ H x y v u Q I rx ry h
  intro s x y d1 d2 pv Q a rx ry e k
  unfold ltD bD at e
  split at e <;> cases e
  · exact .inl ⟨_, _, rx, ry, keep_dat a k rfl⟩
  · exact .inr ⟨_, _, rx, ry, keep_dat a k rfl⟩
theorem od_le : OpD X fx (compareOp .LtE) leD := by
  refine ⟨_, op_le, ?_⟩
  intro s x y d1 d2 pv Q a rx ry e k
  unfold leD bD at e
  split at e <;> cases e
  exact ⟨_, _, rx, ry, keep_dat a k rfl⟩
theorem od_gt : OpD X fx (compareOp .Gt) gtD := by
  refine ⟨_, op_gt, ?_⟩
  intro s x y d1 d2 pv Q a rx ry e k
  unfold gtD bD at e
  split at e <;> cases e
  exact ⟨_, _, rx, ry, keep_dat a k rfl⟩
theorem od_ge : OpD X fx (compareOp .GtE) geD := by
  refine ⟨_, op_ge, ?_⟩
  intro s x y d1 d2 pv Q a rx ry e k
  unfold geD bD at e
  split at e <;> cases e
  exact ⟨_, _, rx, ry, keep_dat a k rfl⟩
mutual
def toPy : D → PyData
  | .non => .none
  | .bl b => .bool b
  | .int i => .int i
  | .str x => .str x
  | .tup ds => .tuple (toPys ds)
  | .lst ds => .list (toPys ds)
  | .dct _ _ => .none
  | .ins _ _ _ => .none
  | .exn _ _ => .none
  | .adr _ => .none
def toPys : List D → List PyData
  | [] => []
  | d :: ds => toPy d :: toPys ds
end
mutual
/-- plain data: compared by value, as deep as n -/
def okPy : D → Bool
  | .non => true
  | .bl _ => true
  | .int _ => true
  | .str x => PyData.strOk x
  | .tup ds => okPys ds
  | .lst ds => okPys ds
  | .dct _ _ => false
  | .ins _ _ _ => false
  | .exn _ _ => false
  | .adr _ => false
def okPys : List D → Bool
  | [] => true
  | d :: ds => okPy d && okPys ds
end
mutual
theorem toPy_lay : ∀ d : D, okPy d = true → (toPy d).canLay0 = true
  | .non, _ => by simp [toPy, PyData.canLay0]
  | .bl _, _ => by simp [toPy, PyData.canLay0]
  | .int _, _ => by simp [toPy, PyData.canLay0]
  | .str x, h => by simpa [toPy, PyData.canLay0, okPy] using h
  | .tup ds, h => by simp only [toPy, PyData.canLay0]; exact toPys_lay ds (by simpa [okPy] using h)
  | .lst ds, h => by simp only [toPy, PyData.canLay0]; exact toPys_lay ds (by simpa [okPy] using h)
  | .dct _ _, h => by simp [okPy] at h
  | .ins _ _ _, h => by simp [okPy] at h
  | .exn _ _, h => by simp [okPy] at h
  | .adr _, h => by simp [okPy] at h
theorem toPys_lay : ∀ ds : List D, okPys ds = true → PyData.canLayAll0 (toPys ds) = true
  | [], _ => by simp [toPys, PyData.canLayAll0]
  | d :: ds, h => by
    have h' : okPy d = true ∧ okPys ds = true := by simpa [okPys] using h
    simp only [toPys, PyData.canLayAll0, toPy_lay d h'.1, toPys_lay ds h'.2, Bool.and_self]
end
mutual
theorem toPy_dp {R : RC} {H : Hp} : ∀ (d : D) (v : V), okPy d = true → Rep R H d v → Dp R.K H v (toPy d)
  | .non, v, _, r => by
    cases (show v = .non from r)
    simp only [toPy]
    exact .non
  | .bl b, v, _, r => by
    cases (show v = .bl b from r)
    simp only [toPy]
    exact .bl b
  | .int b, v, _, r => by
    cases (show v = .int b from r)
    simp only [toPy]
    exact .int b
  | .str b, v, _, r => by
    cases (show v = .str b from r)
    simp only [toPy]
    exact .str b
  | .tup ds, v, h, r => by
    obtain ⟨a, vs, rfl, q, l⟩ := r
    simp only [toPy]
    exact .tup q (toPys_dp ds vs (by simpa [okPy] using h) l)
  | .lst ds, v, h, r => by
    obtain ⟨a, vs, rfl, q, l⟩ := r
    simp only [toPy]
    exact .lst q.sq (toPys_dp ds vs (by simpa [okPy] using h) l)
  | .dct _ _, _, h, _ => by simp [okPy] at h
  | .ins _ _ _, _, h, _ => by simp [okPy] at h
  | .exn _ _, _, h, _ => by simp [okPy] at h
  | .adr _, _, h, _ => by simp [okPy] at h
theorem toPys_dp {R : RC} {H : Hp} : ∀ (ds : List D) (vs : List V), okPys ds = true → RepL R H ds vs → DpAll R.K H vs (toPys ds)
  | [], vs, _, r => by
    cases (show vs = [] from r)
    simp only [toPys]
    exact .nil
  | d :: ds, vs, h, r => by
    obtain ⟨v, ws, rfl, p, q⟩ := r
    have h' : okPy d = true ∧ okPys ds = true := by simpa [okPys] using h
    simp only [toPys]
    exact .cons (toPy_dp d v h'.1 p) (toPys_dp ds ws h'.2 q)
end
def shp (d : D) : Bool := okPy d && decide ((toPy d).depth ≤ 64)
theorem shp_ok {d : D} (h : shp d = true) : SeqAt.shaped (toPy d) = true := by
  unfold shp at h
  rw [Bool.and_eq_true] at h
  unfold SeqAt.shaped
  rw [Bool.and_eq_true]
  exact ⟨toPy_lay d h.1, h.2⟩
def eqB (d e : D) : Option Bool := if shp d = true ∧ shp e = true then some (PyData.eqv (toPy d) (toPy e)) else none
def eqD (d e : D) : Option PV := match eqB d e with
  | some b => bD b
  | none => none
def neD (d e : D) : Option PV := match eqB d e with
  | some b => bD (!b)
  | none => none
theorem shp_py {d : D} (h : shp d = true) : okPy d = true := by
  unfold shp at h
  rw [Bool.and_eq_true] at h
  exact h.1
theorem od_eq (hu : X.A.units + 65 < cLine) : OpD X fx (compareOp .Eq) eqD := by
  refine ⟨_, op_eqD (by omega), ?_⟩
  intro s x y d1 d2 pv Q a rx ry e k
  unfold eqD eqB at e
  by_cases hs : shp d1 = true ∧ shp d2 = true
  · rw [if_pos hs] at e
    cases e
    exact ⟨_, _, toPy_dp d1 x (shp_py hs.1) rx.full, toPy_dp d2 y (shp_py hs.2) ry.full, shp_ok hs.1, shp_ok hs.2, keep_dat a k rfl⟩
  · rw [if_neg hs] at e
    cases e
theorem od_ne (hu : X.A.units + 65 < cLine) : OpD X fx (compareOp .NotEq) neD := by
  refine ⟨_, op_neD (by omega), ?_⟩
  intro s x y d1 d2 pv Q a rx ry e k
  unfold neD eqB at e
  by_cases hs : shp d1 = true ∧ shp d2 = true
  · rw [if_pos hs] at e
    cases e
    exact ⟨_, _, toPy_dp d1 x (shp_py hs.1) rx.full, toPy_dp d2 y (shp_py hs.2) ry.full, shp_ok hs.1, shp_ok hs.2, keep_dat a k rfl⟩
  · rw [if_neg hs] at e
    cases e
def isNon : D → Bool
  | .non => true
  | _ => false
def isD (d e : D) : Option PV := match e with
  | .non => bD (isNon d)
  | .bl b => match d with
    | .bl c => bD (c == b)
    | _ => none
  | _ => none
def isnD (d e : D) : Option PV := match e with
  | .non => bD (!isNon d)
  | .bl b => match d with
    | .bl c => bD (!(c == b))
    | _ => none
  | _ => none
theorem RepV.non {R : RC} {s : SS} {v : V} : ∀ {d : D}, RepV R s d v → decide (v = .non) = isNon d
  | .non, r => by cases (show v = .non from r); rfl
  | .bl _, r => by cases (show v = .bl _ from r); rfl
  | .int _, r => by cases (show v = .int _ from r); rfl
  | .str _, r => by cases (show v = .str _ from r); rfl
  | .tup _, r => by obtain ⟨a, vs, rfl, _⟩ := r; rfl
  | .lst _, r => by obtain ⟨a, vs, rfl, _⟩ := r; rfl
  | .dct _ _, r => by obtain ⟨a, vs, rfl, _⟩ := r; rfl
  | .ins _ _ _, r => by obtain ⟨a, C, dx, vs, rfl, _⟩ := r; rfl
  | .exn _ _, r => by obtain ⟨a, C, dx, vs, rfl, _⟩ := r; rfl
  | .adr _, r => by cases (show v = .ref _ from r); rfl
theorem RepV.isnon {R : RC} {s : SS} {v : V} {d : D} (r : RepV R s d v) (h : isNon d = true) : v = .non := by
  have := r.non
  rw [h] at this
  exact of_decide_eq_true this
theorem same_bl (c b : Bool) : (Value.bool c == Value.bool b) = (c == b) := by cases c <;> cases b <;> decide
theorem op_isB : OpR X (compareOp .Is) (fun x y H Q => ∃ c b : Bool, x = .bl c ∧ y = .bl b ∧ Q (.bl (c == b)) H) := by
  intro pins s σ H x y v u Q I rx ry h
  obtain ⟨c, b, rfl, rfl, q⟩ := h
  cases rx
  cases ry
  exact wpAny_is_plain rfl ⟨.bl (c == b), H, I, congrArg Value.bool (same_bl c b), q⟩
theorem op_isnB : OpR X (compareOp .IsNot) (fun x y H Q => ∃ c b : Bool, x = .bl c ∧ y = .bl b ∧ Q (.bl (!(c == b))) H) := by
  intro pins s σ H x y v u Q I rx ry h
  obtain ⟨c, b, rfl, rfl, q⟩ := h
  cases rx
  cases ry
  exact wpAny_isNot_plain rfl ⟨.bl (!(c == b)), H, I, congrArg (fun k => Value.bool (!k)) (same_bl c b), q⟩
theorem OpR.or {f : Value → Value → Sem Value} {r1 r2 : R2} (h1 : OpR X f r1) (h2 : OpR X f r2) : OpR X f (fun x y H Q => r1 x y H Q ∨ r2 x y H Q) :=
  fun pins s σ H x y v u Q I rx ry h => h.elim (h1 pins s σ H x y v u Q I rx ry) (h2 pins s σ H x y v u Q I rx ry)
theorem od_is : OpD X fx (compareOp .Is) isD := by
  refine ⟨_, OpR.or op_isN op_isB, ?_⟩
  intro s x y d1 d2 pv Q a rx ry e k
  unfold isD bD at e
  split at e
  · cases e
    exact .inl ⟨ry.isnon rfl, keep_dat a k (by rw [rx.non]; rfl)⟩
  · split at e <;> cases e
    exact .inr ⟨_, _, rx, ry, keep_dat a k rfl⟩
  · cases e
theorem od_isn : OpD X fx (compareOp .IsNot) isnD := by
  refine ⟨_, OpR.or op_notN op_isnB, ?_⟩
  intro s x y d1 d2 pv Q a rx ry e k
  unfold isnD bD at e
  split at e
  · cases e
    exact .inl ⟨ry.isnon rfl, keep_dat a k (by rw [rx.non]; rfl)⟩
  · split at e <;> cases e
    exact .inr ⟨_, _, rx, ry, keep_dat a k rfl⟩
  · cases e
end
end DL

set_option Elab.async false
set_option linter.all false
set_option maxRecDepth 100000
namespace DL
open PySem PySem.Spec L2
section
variable {X : Cx} {fx : List (Nat × V)} {W : WX} {pos : Pos} {a b c : Expr} {f g h : F1} {rest : List Expr}

/-! ### and, or, not, if-else, chains -/
def pB (p : PV) : Option Bool := match p with
  | .dat (.bl b) => some b
  | _ => none
theorem pB_ok {p : PV} {k : Bool} (h : pB p = some k) : p = .dat (.bl k) := by
  unfold pB at h
  split at h <;> cases h
  rfl
def eAnd (f g : F1) : F1 := fun e => (f e).bind fun p e1 => match pB p with
  | some true => g e1
  | some false => .ok (.dat (.bl false)) e1
  | none => .bot
def eOr (f g : F1) : F1 := fun e => (f e).bind fun p e1 => match pB p with
  | some true => .ok (.dat (.bl true)) e1
  | some false => g e1
  | none => .bot
def eNot (f : F1) : F1 := fun e => (f e).bind fun p e1 => match pB p with
  | some k => .ok (.dat (.bl (!k))) e1
  | none => .bot
theorem de_one {op} (h : DE X fx W a f) : DE X fx W (.BoolOp op [a] pos) f := pe_one h
theorem de_and (ha : DE X fx W a f) (hb : DE X fx W (.BoolOp .And (b :: rest) pos) g) : DE X fx W (.BoolOp .And (a :: b :: rest) pos) (eAnd f g) := by
  refine PE.imp (pe_and ha hb) fun σ H Q q => ?_
  obtain ⟨e, A, a0, q⟩ := q
  refine ⟨e, A, a0, (EPost.bnd a0 q).mono fun x H1 ⟨e1, A1, p, x1, r1, h1, _⟩ => ?_⟩
  cases hp : pB p with
  | none => simp only [hp] at h1; exact h1.elim
  | some k =>
    obtain rfl := pB_ok hp
    simp only [hp] at h1
    refine ⟨k, r1.1, ?_⟩
    cases k with
    | true => exact iteT ⟨e1, A1, x1.ab, h1⟩
    | false => exact iteF (h1 (.bl false) _ rfl (.refl x1.ab) ⟨rfl, trivial⟩)
theorem de_or (ha : DE X fx W a f) (hb : DE X fx W (.BoolOp .Or (b :: rest) pos) g) : DE X fx W (.BoolOp .Or (a :: b :: rest) pos) (eOr f g) := by
  refine PE.imp (pe_or ha hb) fun σ H Q q => ?_
  obtain ⟨e, A, a0, q⟩ := q
  refine ⟨e, A, a0, (EPost.bnd a0 q).mono fun x H1 ⟨e1, A1, p, x1, r1, h1, _⟩ => ?_⟩
  cases hp : pB p with
  | none => simp only [hp] at h1; exact h1.elim
  | some k =>
    obtain rfl := pB_ok hp
    simp only [hp] at h1
    refine ⟨k, r1.1, ?_⟩
    cases k with
    | true => exact iteT (h1 (.bl true) _ rfl (.refl x1.ab) ⟨rfl, trivial⟩)
    | false => exact iteF ⟨e1, A1, x1.ab, h1⟩
theorem de_not (ha : DE X fx W a f) : DE X fx W (.UnaryOp .Not a pos) (eNot f) := by
  refine PE.imp (pe_not ha) fun σ H Q q => ?_
  obtain ⟨e, A, a0, q⟩ := q
  refine ⟨e, A, a0, (EPost.bnd a0 q).mono fun x H1 ⟨e1, A1, p, x1, r1, h1, _⟩ => ?_⟩
  cases hp : pB p with
  | none => simp only [hp] at h1; exact h1.elim
  | some k =>
    obtain rfl := pB_ok hp
    simp only [hp] at h1
    exact ⟨k, r1.1, h1 (.bl (!k)) _ rfl (.refl x1.ab) ⟨rfl, trivial⟩⟩

/-! ### tests -/
def tOf (f : F1) : FB := fun e => (f e).bind fun p e1 => match pB p with
  | some k => .ok k e1
  | none => .bot
theorem tOf_post {σ : L2.St} {H : Hp} {Q : Bool → Hp → Prop} (q : rd (RB (rc X) fx) W (tOf f) σ H Q) : rd (RE (rc X) fx) W f σ H fun x H1 => ∃ k, x = .bl k ∧ Q k H1 := by
  obtain ⟨e, A, a0, q⟩ := q
  refine ⟨e, A, a0, (EPost.bnd a0 q).mono fun x H1 ⟨e1, A1, p, x1, r1, h1, _⟩ => ?_⟩
  cases hp : pB p with
  | none => simp only [hp] at h1; exact h1.elim
  | some k =>
    obtain rfl := pB_ok hp
    simp only [hp] at h1
    exact ⟨k, r1.1, h1 k _ rfl (.refl x1.ab) rfl⟩
theorem dt_val (ha : DE X fx W a f) (he : ∀ whole, isTrue a X.env whole = (do let v ← whole; standAt a.pos; holding [v] (truthy v)) := by intro _; rfl) : DT X fx W a (tOf f) :=
  PT.imp (pt_val ha he) fun σ H Q q => tOf_post q
theorem dt_cmp {op : CmpOp} {gg : D → D → Option PV} (ho : OpD X fx (compareOp op) gg) (ha : DE X fx W a f) (hb : DE X fx W b g) (hm : behindInMarks op b = false) : DT X fx W (.Compare a [op] [b] pos) (tOf (eOp gg f g)) := by
  obtain ⟨r, hr, hq⟩ := ho
  exact PT.imp (pt_cmpR hr ha hb hm) fun σ H Q q => op2 (k := compareOp op) hq (tOf_post q)
def eChain (g1 g2 : D → D → Option PV) (f g h : F1) : F1 := fun e => (f e).bind fun p e1 => (g e1).bind fun q e2 => (pOp g1 p q e2).bind fun z e3 => match pB z with
  | some true => (h e3).bind fun w e4 => pOp g2 q w e4
  | some false => .ok (.dat (.bl false)) e3
  | none => .bot
theorem chain2 {op op' : CmpOp} {g1 g2 : D → D → Option PV} {r r' : R2}
    (hq : ∀ (s : SS) (x y : V) (d1 d2 : D) (pv : PV) (Q : VK), Sa (rc X) fx s → RepV (rc X) s d1 x → RepV (rc X) s d2 y → g1 d1 d2 = some pv → (∀ v t, t.e = s.e → St1 (rc X) fx s t → Sr (rc X) t v pv → Fr s.H v pv → Q v t.H) → r x y s.H Q)
    (hq' : ∀ (s : SS) (x y : V) (d1 d2 : D) (pv : PV) (Q : VK), Sa (rc X) fx s → RepV (rc X) s d1 x → RepV (rc X) s d2 y → g2 d1 d2 = some pv → (∀ v t, t.e = s.e → St1 (rc X) fx s t → Sr (rc X) t v pv → Fr s.H v pv → Q v t.H) → r' x y s.H Q)
    {σ : L2.St} {H : Hp} {Q : VK} (q : rd (RE (rc X) fx) W (eChain g1 g2 f g h) σ H Q) : tChain r r' (rd (RE (rc X) fx) W f) (rd (RE (rc X) fx) W g) (rd (RE (rc X) fx) W h) σ H Q := by
  obtain ⟨e, A, a0, q⟩ := q
  refine ⟨e, A, a0, (EPost.bnd a0 q).mono fun x H1 ⟨e1, A1, p, x1, r1, h1, _⟩ => ?_⟩
  refine ⟨e1, A1, x1.ab, (EPost.bnd x1.ab h1).mono fun y H2 ⟨e2, A2, q, x2, r2, h2, _⟩ => ?_⟩
  refine pOp_post (s := ⟨σ, e2, A2, H2⟩) (k := compareOp op) hq x2.ab (Sr.step x1.ab x2 r1.1) r2.1 ((EPost.bnd x2.ab h2).mono fun z H3 ⟨e3, A3, w, x3, r3, h3, _⟩ => ?_)
  cases hp : pB w with
  | none => simp only [hp] at h3; exact h3.elim
  | some k =>
    obtain rfl := pB_ok hp
    simp only [hp] at h3
    refine ⟨k, r3.1, ?_⟩
    cases k with
    | true =>
      refine iteT ⟨e3, A3, x3.ab, (EPost.bnd x3.ab h3).mono fun u H4 ⟨e4, A4, w', x4, r4, h4, _⟩ => ?_⟩
      exact pOp_post (s := ⟨σ, e4, A4, H4⟩) (k := compareOp op') hq' x4.ab (Sr.step x3.ab x4 (Sr.step x2.ab x3 r2.1)) r4.1 h4
    | false => exact iteF (h3 (.bl false) _ rfl (.refl x3.ab) ⟨rfl, trivial⟩)
theorem de_chain {op op' : CmpOp} {g1 g2 : D → D → Option PV} (ho : OpD X fx (compareOp op) g1) (ho' : OpD X fx (compareOp op') g2) (ha : DE X fx W a f) (hb : DE X fx W b g) (hc : DE X fx W c h)
    (hm : lastMarks [op, op'] [b, c] = false := by with_unfolding_all rfl) : DE X fx W (.Compare a [op, op'] [b, c] pos) (eChain g1 g2 f g h) := by
  obtain ⟨r, hr, hq⟩ := ho
  obtain ⟨r', hr', hq'⟩ := ho'
  exact PE.imp (pe_chain hr hr' ha hb hc hm) fun σ H Q q => chain2 (op := op) (op' := op') hq hq' q
theorem dt_chain {op op' : CmpOp} {g1 g2 : D → D → Option PV} (ho : OpD X fx (compareOp op) g1) (ho' : OpD X fx (compareOp op') g2) (ha : DE X fx W a f) (hb : DE X fx W b g) (hc : DE X fx W c h)
    (hm : lastMarks [op, op'] [b, c] = false := by with_unfolding_all rfl) : DT X fx W (.Compare a [op, op'] [b, c] pos) (tOf (eChain g1 g2 f g h)) := by
  obtain ⟨r, hr, hq⟩ := ho
  obtain ⟨r', hr', hq'⟩ := ho'
  exact PT.imp (pt_chain hr hr' ha hb hc hm) fun σ H Q q => chain2 (op := op) (op' := op') hq hq' (tOf_post q)
def tAndB (f g : FB) : FB := fun e => (f e).bind fun k e1 => match k with
  | true => g e1
  | false => .ok false e1
def tOrB (f g : FB) : FB := fun e => (f e).bind fun k e1 => match k with
  | true => .ok true e1
  | false => g e1
def tNotB (f : FB) : FB := fun e => (f e).bind fun k e1 => .ok (!k) e1
section
variable {f g : FB}
theorem dt_bool (h : DW X fx W a f) : DT X fx W a f := PW.pt h
theorem dw_and1 (h : DT X fx W a f) : DW X fx W (.BoolOp .And [a] pos) f := pw_and1 h
theorem dw_or1 (h : DT X fx W a f) : DW X fx W (.BoolOp .Or [a] pos) f := pw_or1 h
theorem dw_and (ha : DT X fx W a f) (hb : DW X fx W (.BoolOp .And (b :: rest) pos) g) : DW X fx W (.BoolOp .And (a :: b :: rest) pos) (tAndB f g) := by
  refine PW.imp (pw_and ha hb) fun σ H Q q => ?_
  obtain ⟨e, A, a0, q⟩ := q
  refine ⟨e, A, a0, (EPost.bnd a0 q).mono fun x H1 ⟨e1, A1, p, x1, r1, h1, _⟩ => ?_⟩
  obtain rfl : x = p := r1
  cases x with
  | true => exact iteT ⟨e1, A1, x1.ab, h1⟩
  | false => exact iteF (h1 false _ rfl (.refl x1.ab) rfl)
theorem dw_or (ha : DT X fx W a f) (hb : DW X fx W (.BoolOp .Or (b :: rest) pos) g) : DW X fx W (.BoolOp .Or (a :: b :: rest) pos) (tOrB f g) := by
  refine PW.imp (pw_or ha hb) fun σ H Q q => ?_
  obtain ⟨e, A, a0, q⟩ := q
  refine ⟨e, A, a0, (EPost.bnd a0 q).mono fun x H1 ⟨e1, A1, p, x1, r1, h1, _⟩ => ?_⟩
  obtain rfl : x = p := r1
  cases x with
  | true => exact iteT (h1 true _ rfl (.refl x1.ab) rfl)
  | false => exact iteF ⟨e1, A1, x1.ab, h1⟩
theorem dt_not (ha : DT X fx W a f) : DT X fx W (.UnaryOp .Not a pos) (tNotB f) := by
  refine PT.imp (pt_not ha) fun σ H Q q => ?_
  obtain ⟨e, A, a0, q⟩ := q
  refine ⟨e, A, a0, (EPost.bnd a0 q).mono fun x H1 ⟨e1, A1, p, x1, r1, h1, _⟩ => ?_⟩
  obtain rfl : x = p := r1
  exact h1 (!x) _ rfl (.refl x1.ab) rfl
end
def eIf (t : FB) (f g : F1) : F1 := fun e => (t e).bind fun k e1 => match k with
  | true => f e1
  | false => g e1
theorem de_if {t : FB} (hc : DT X fx W c t) (ha : DE X fx W a f) (hb : DE X fx W b g) : DE X fx W (.IfExp c a b pos) (eIf t f g) := by
  refine PE.imp (pe_ifExp hc ha hb) fun σ H Q q => ?_
  obtain ⟨e, A, a0, q⟩ := q
  refine ⟨e, A, a0, (EPost.bnd a0 q).mono fun x H1 ⟨e1, A1, p, x1, r1, h1, h2⟩ => ?_⟩
  obtain rfl : x = p := r1
  cases x with
  | true => exact iteT ⟨e1, A1, x1.ab, h1⟩
  | false => exact iteF ⟨e1, A1, x1.ab, h1⟩

/-! ### subscripts, slices -/
def oneS (c : Nat) : Str := ⟨#[c]⟩
def ixD : D → D → Option PV
  | .lst xs, .int i => (atI xs i).map .dat
  | .tup xs, .int i => (atI xs i).map .dat
  | .str z, .int i => if z.length ≤ 1000000 then (atI z.cps.toList i).map fun c => .dat (.str (oneS c)) else none
  | _, _ => none
theorem RepL.at {R : RC} {H : Hp} {ds : List D} {vs : List V} {i : Int} {d : D} (r : RepL R H ds vs) (e : atI ds i = some d) : ∃ v, atI vs i = some v ∧ Rep R H d v := by
  unfold atI at e ⊢
  rw [RepL.length r]
  cases q : ixN ds.length i with
  | none => rw [q] at e; cases e
  | some j =>
    rw [q] at e
    exact RepL.get r e
theorem ix_post (s : SS) (x y : V) (d1 d2 : D) (pv : PV) (Q : VK) (a : Sa (rc X) fx s) (rx : RepV (rc X) s d1 x) (ry : RepV (rc X) s d2 y) (e : ixD d1 d2 = some pv)
    (k : ∀ v t, t.e = s.e → St1 (rc X) fx s t → Sr (rc X) t v pv → Fr s.H v pv → Q v t.H) : rIx X.K x y s.H Q := by
  unfold ixD at e
  split at e
  · rename_i xs i
    cases q : atI xs i with
    | none => rw [q] at e; cases e
    | some d =>
      rw [q] at e
      cases e
      obtain ⟨p, vs, rfl, h1, h2⟩ := RepV.ref_lst rx
      obtain ⟨v, e1, e2⟩ := RepL.at h2 q
      exact .inl ⟨p, vs, i, v, rfl, ry, h1.sq, e1, keep_dat a k e2⟩
  · rename_i xs i
    cases q : atI xs i with
    | none => rw [q] at e; cases e
    | some d =>
      rw [q] at e
      cases e
      obtain ⟨p, vs, rfl, h1, h2⟩ := RepV.ref_tup rx
      obtain ⟨v, e1, e2⟩ := RepL.at h2 q
      exact .inr (.inl ⟨p, vs, i, v, rfl, ry, SqT.le hid_le h1, e1, keep_dat a k e2⟩)
  · rename_i z i
    split at e <;> try cases e
    rename_i hz
    cases q : atI z.cps.toList i with
    | none => rw [q] at e; cases e
    | some d =>
      rw [q] at e
      cases e
      exact .inr (.inr ⟨z, i, d, rx, ry, szle hz, q, keep_dat a k rfl⟩)
  · cases e
theorem de_ix (ha : DE X fx W a f) (hb : DE X fx W b g) (hs : PlainIx b) : DE X fx W (.Subscript a b pos) (eOp ixD f g) :=
  PE.imp (pe_ix ix_seq ha hb hs) fun σ H Q q => op2 (k := getItem) (fun s x y d1 d2 pv Q a rx ry e k => ix_post s x y d1 d2 pv Q a rx ry e k) q
/-- a part of a slice -/
abbrev FO := DEnv → EO (Option Int)
def RO (R : RC) (fx : List (Nat × V)) : Rl R fx (Option Int) (Option Int) := ⟨fun _ _ b c => b = c, fun _ r => r⟩
def DP (X : Cx) (fx : List (Nat × V)) (W : WX) (e : Option Expr) (f : FO) : Prop := PO X e (rd (RO (rc X) fx) W f)
theorem PO.imp {X : Cx} {e : Option Expr} {t t' : TO} (h : PO X e t) (i : ∀ σ H Q, t' σ H Q → t σ H Q) : PO X e t' := ⟨fun pins s σ H Q I q => h.run pins s σ H Q I (i σ H Q q)⟩
def pNone : FO := fun e => .ok none e
def pSome (f : F1) : FO := fun e => (f e).bind fun p e1 => match p with
  | .dat (.int i) => .ok (some i) e1
  | _ => .bot
theorem dp_none : DP X fx W none pNone := PO.imp po_none fun σ H Q q => by
  obtain ⟨e, A, a0, q⟩ := q
  exact q none _ rfl (.refl a0) rfl
theorem dp_some (ha : DE X fx W a f) : DP X fx W (some a) (pSome f) := PO.imp (po_some ha) fun σ H Q q => by
  obtain ⟨e, A, a0, q⟩ := q
  refine ⟨e, A, a0, (EPost.bnd a0 q).mono fun x H1 ⟨e1, A1, p, x1, r1, h1, _⟩ => ?_⟩
  dsimp only at h1
  split at h1
  · exact ⟨_, r1.1, h1 (some _) _ rfl (.refl x1.ab) rfl⟩
  · exact h1.elim
def cutA {α : Type} (xs : List α) (lo hi : Option Int) : List α := (xs.drop (HT.sIx xs.length 0 lo)).take (HT.sIx xs.length xs.length hi - HT.sIx xs.length 0 lo)
def slD (d : D) (lo hi : Option Int) : Option PV := match d with
  | .lst xs => some (.fresh (.lst (cutA xs lo hi)))
  | .tup xs => some (.dat (.tup (cutA xs lo hi)))
  | .str z => if z.length ≤ 1000000 then some (.dat (.str (cutS z lo hi))) else none
  | _ => none
def eSl (f : F1) (l u : FO) : F1 := fun e => (f e).bind fun p e1 => (l e1).bind fun lo e2 => (u e2).bind fun hi e3 => match res p e3 with
  | some d => match slD d lo hi with
    | some r => .ok r e3
    | none => .bot
  | none => .bot
theorem RepL.cut {R : RC} {H : Hp} {ds : List D} {vs : List V} (r : RepL R H ds vs) (lo hi : Option Int) : RepL R H (cutA ds lo hi) (cutV vs lo hi) := by
  unfold cutA cutV
  rw [RepL.length r]
  exact (r.drop _).take _
theorem sIx_le_len {n d : Nat} (hd : d ≤ n) (v : Option Int) : HT.sIx n d v ≤ n := HT.sIx_le _ _ hd _
theorem sl_post (s : SS) (x : V) (d : D) (lo hi : Option Int) (pv : PV) (Q : VK) (a : Sa (rc X) fx s) (rx : RepV (rc X) s d x) (e : slD d lo hi = some pv)
    (k : ∀ v t, t.e = s.e → St1 (rc X) fx s t → Sr (rc X) t v pv → Fr s.H v pv → Q v t.H) : rSlL X.K x lo hi s.H Q ∨ (rSlA X.K x lo hi s.H Q ∨ rSlS x lo hi s.H Q) := by
  unfold slD at e
  split at e
  · cases e
    obtain ⟨p, vs, rfl, h1, h2⟩ := RepV.ref_lst rx
    exact .inl ⟨p, vs, rfl, h1.sq, fun l hl => k (.ref l) (s.layO l _) rfl (.layO a hl) (Sr.lst a hl (h2.cut lo hi)) fun l' e => by cases e; exact hl⟩
  · cases e
    obtain ⟨p, vs, rfl, h1, h2⟩ := RepV.ref_tup rx
    refine .inr (.inl ⟨p, vs, rfl, SqT.le hid_le h1, fun hw => ?_, fun _ l hl => ?_⟩)
    · refine keep_dat a k ⟨p, vs, rfl, h1, ?_⟩
      have e2 : cutV vs lo hi = vs := by
        unfold cutV
        rw [hw.1, hw.2]
        simp
      have := h2.cut lo hi
      rw [e2] at this
      exact this
    · exact k (.ref l) (s.lay l _) rfl (.lay a hl) (Sr.tup a hl (h2.cut lo hi)) trivial
  · split at e <;> cases e
    rename_i hz
    exact .inr (.inr ⟨_, rx, szle hz, keep_dat a k rfl⟩)
  · cases e
theorem de_sl {l u : FO} {lo hi : Option Expr} {p2 : Pos} (ha : DE X fx W a f) (hl : DP X fx W lo l) (hu : DP X fx W hi u) : DE X fx W (.Subscript a (.Slice lo hi none p2) pos) (eSl f l u) := by
  refine PE.imp (pe_slice (sl_list.or (sl_tupA.or sl_str)) ha hl hu) fun σ H Q q => ?_
  obtain ⟨e, A, a0, q⟩ := q
  refine ⟨e, A, a0, (EPost.bnd a0 q).mono fun x H1 ⟨e1, A1, p, x1, r1, h1, _⟩ => ?_⟩
  refine ⟨e1, A1, x1.ab, (EPost.bnd x1.ab h1).mono fun y H2 ⟨e2, A2, lo', x2, r2, h2, _⟩ => ?_⟩
  obtain rfl : y = lo' := r2
  refine ⟨e2, A2, x2.ab, (EPost.bnd x2.ab h2).mono fun z H3 ⟨e3, A3, hi', x3, r3, h3, _⟩ => ?_⟩
  obtain rfl : z = hi' := r3
  have rx : Sr (rc X) ⟨σ, e3, A3, H3⟩ x p := Sr.step x2.ab x3 (Sr.step x1.ab x2 r1.1)
  cases q1 : res p e3 with
  | none => simp only [q1] at h3; exact h3.elim
  | some d =>
    simp only [q1] at h3
    cases q2 : slD d y z with
    | none => simp only [q2] at h3; exact h3.elim
    | some r =>
      simp only [q2] at h3
      exact sl_post ⟨σ, e3, A3, H3⟩ x d y z r Q x3.ab (Sr.val x3.ab rx q1) q2 fun v t et st sr fr => h3 v t et st ⟨sr, fr⟩
end
end DL

set_option Elab.async false
set_option linter.all false
set_option maxRecDepth 100000
namespace DL
open PySem PySem.Spec L2
section
variable {X : Cx} {fx : List (Nat × V)} {W : WX} {pos : Pos} {a b c : Expr} {f g h : F1} {rest : List Expr}

/-! ### arguments -/
def frzF (p : PV) : PV := match p with
  | .fresh d => .dat d
  | p => p
theorem frzF_ok {R : RC} {b s : SS} {v : V} {p : PV} (ab : Sa R fx b) (x : St1 R fx b s) (r : Sr R s v p) (f : Fr b.H v p) : ∃ t : SS, t.e = s.e ∧ t.H = s.H ∧ St1 R fx b t ∧ Sr R t v (frzF p) := by
  cases p with
  | dat d => exact ⟨s, rfl, rfl, x, r⟩
  | pk i => exact ⟨s, rfl, rfl, x, r⟩
  | fresh d => exact frz_ok (d := d) (e := s.e) ab x r f rfl
def eArgs : List F1 → FL
  | [], e => .ok [] e
  | f :: fs, e => (f e).bind fun p e1 => (eArgs fs e1).bind fun ps e2 => .ok (frzF p :: ps) e2
theorem da_nil : DA X fx W [] (eArgs []) := PA.imp pa_nil fun σ H Q h => by
  obtain ⟨e, A, a0, h⟩ := h
  exact h [] _ rfl (.refl a0) trivial
theorem da_cons {es : List Expr} {fs : List F1} (ha : DE X fx W a f) (hr : DA X fx W es (eArgs fs)) (hs : starEach (a :: es) X.env = (false, eval a X.env) :: starEach es X.env := by rfl) : DA X fx W (a :: es) (eArgs (f :: fs)) := by
  refine PA.imp (pa_cons ha hr hs) fun σ H Q h => ?_
  obtain ⟨e, A, a0, h⟩ := h
  refine ⟨e, A, a0, (EPost.bnd a0 h).mono fun v H1 ⟨e1, A1, p, x1, r1, _, h1⟩ => ?_⟩
  obtain ⟨⟨σ2, e2', A2, H2⟩, rfl, rfl, x2, rd⟩ := frzF_ok a0 x1 r1.1 r1.2
  obtain rfl : σ2 = σ := x2.eq
  have h2 := EPost.later a0 x2 h1
  refine ⟨_, A2, x2.ab, (EPost.bnd x2.ab h2).mono fun vs H3 ⟨e3, A3, ds, x3, r3, h3, _⟩ => ?_⟩
  exact h3 (v :: vs) _ rfl (.refl x3.ab) ⟨Sr.step x2.ab x3 rd, r3⟩

/-! ### calls of what is built in -/
def CallD (X : Cx) (fx : List (Nat × V)) (f : Value) (g : List D → Option PV) : Prop :=
  ∃ r : List V → Hp → VK → Prop, CallR X f r ∧ ∀ (s : SS) (xs : List V) (ds : List D) (pv : PV) (Q : VK), Sa (rc X) fx s → RepVL (rc X) s ds xs → g ds = some pv →
    (∀ v t, t.e = s.e → St1 (rc X) fx s t → Sr (rc X) t v pv → Fr s.H v pv → Q v t.H) → r xs s.H Q
def eCallB (g : List D → Option PV) (fs : List F1) : F1 := fun e => (eArgs fs e).bind fun ps e1 => match resL ps e1 with
  | some ds => match g ds with
    | some r => .ok r e1
    | none => .bot
  | none => .bot
theorem callB_post {gg : List D → Option PV} {fs : List F1} {r : List V → Hp → VK → Prop}
    (hq : ∀ (s : SS) (xs : List V) (ds : List D) (pv : PV) (Q : VK), Sa (rc X) fx s → RepVL (rc X) s ds xs → gg ds = some pv →
      (∀ v t, t.e = s.e → St1 (rc X) fx s t → Sr (rc X) t v pv → Fr s.H v pv → Q v t.H) → r xs s.H Q) {σ : L2.St} {H : Hp} {Q : VK} (q : rd (RE (rc X) fx) W (eCallB gg fs) σ H Q) : tCB r (rd (RL (rc X) fx) W (eArgs fs)) σ H Q := by
  obtain ⟨e, A, a0, q⟩ := q
  refine ⟨e, A, a0, (EPost.bnd a0 q).mono fun x H1 ⟨e1, A1, p, x1, r1, h1, _⟩ => ?_⟩
  cases q1 : resL p e1 with
  | none => simp only [q1] at h1; exact h1.elim
  | some ds =>
    simp only [q1] at h1
    cases q2 : gg ds with
    | none => simp only [q2] at h1; exact h1.elim
    | some pv =>
      simp only [q2] at h1
      exact hq ⟨σ, e1, A1, H1⟩ x ds pv Q x1.ab (SrL.val x1.ab r1 q1) q2 fun v t et st sr fr => h1 v t et st ⟨sr, fr⟩
theorem de_callB {x : Str} {id : String} {p : Pos} {es : List Expr} {fs : List F1} {gg : List D → Option PV} (hc : CallD X fx (.builtin id) gg) (hg : Gl X x) (hm : X.mg x = none) (hv : bootBuiltins x = some (.builtin id)) (ha : DA X fx W (a :: es) (eArgs fs))
    (hn : x ≠ "__name__" := by decide) (hdb : (x == ("__debug__" : Str)) = false := by decide)
    (he : starEach (a :: es) X.env = (false, eval a X.env) :: starEach es X.env := by rfl) (hpl : (backTo pos (starEach es X.env)).any (·.1) = false := by rfl) : DE X fx W (.Call (.Name x p) (a :: es) [] pos) (eCallB gg fs) := by
  obtain ⟨r, hr, hq⟩ := hc
  exact PE.imp (pe_callB hr hg hm hv ha hn hdb he hpl) fun σ H Q q => callB_post hq q
theorem de_callTy {x : Str} {T : String} {p : Pos} {es : List Expr} {fs : List F1} {gg : List D → Option PV} (hc : CallD X fx (.type T) gg) (hg : Gl X x) (hm : X.mg x = none) (hv : bootBuiltins x = some (.type T)) (ha : DA X fx W (a :: es) (eArgs fs))
    (hn : x ≠ "__name__" := by decide) (hdb : (x == ("__debug__" : Str)) = false := by decide)
    (he : starEach (a :: es) X.env = (false, eval a X.env) :: starEach es X.env := by rfl) (hpl : (backTo pos (starEach es X.env)).any (·.1) = false := by rfl) : DE X fx W (.Call (.Name x p) (a :: es) [] pos) (eCallB gg fs) := by
  obtain ⟨r, hr, hq⟩ := hc
  exact PE.imp (pe_callTy hr hg hm hv ha hn hdb he hpl) fun σ H Q q => callB_post hq q
theorem RepVL.one {R : RC} {s : SS} {d : D} {xs : List V} (r : RepVL R s [d] xs) : ∃ x, xs = [x] ∧ RepV R s d x := by
  match xs, r with
  | [x], r => exact ⟨x, rfl, r.1⟩
  | _ :: _ :: _, r => exact r.2.elim
theorem RepVL.two {R : RC} {s : SS} {d e : D} {xs : List V} (r : RepVL R s [d, e] xs) : ∃ x y, xs = [x, y] ∧ RepV R s d x ∧ RepV R s e y := by
  match xs, r with
  | [x, y], r => exact ⟨x, y, rfl, r.1, r.2.1⟩
  | [_], r => exact r.2.elim
  | _ :: _ :: _ :: _, r => exact r.2.2.elim
def iD (i : Int) : Option PV := some (.dat (.int i))
def lenD : List D → Option PV
  | [.lst xs] => iD xs.length
  | [.tup xs] => iD xs.length
  | [.str z] => if z.length ≤ 1000000 then iD z.length else none
  | _ => none
theorem cd_len : CallD X fx (.builtin "len") lenD := by
  refine ⟨_, call_len, ?_⟩
  intro s xs ds pv Q a r e k
  unfold lenD iD at e
  split at e
  · cases e
    obtain ⟨x, rfl, rx⟩ := r.one
    obtain ⟨p, vs, rfl, h1, h2⟩ := RepV.ref_lst rx
    exact ⟨_, _, rfl, .inl ⟨vs, h1.sq, rfl⟩, keep_dat a k (by rw [RepL.length h2]; rfl)⟩
  · cases e
    obtain ⟨x, rfl, rx⟩ := r.one
    obtain ⟨p, vs, rfl, h1, h2⟩ := RepV.ref_tup rx
    exact ⟨_, _, rfl, .inr ⟨vs, SqT.le hid_le h1, rfl⟩, keep_dat a k (by rw [RepL.length h2]; rfl)⟩
  · split at e <;> cases e
    rename_i hz
    obtain ⟨x, rfl, rx⟩ := r.one
    cases (show x = .str _ from rx)
    exact ⟨_, _, rfl, ⟨szle hz, rfl⟩, keep_dat a k rfl⟩
  · cases e
def absD : List D → Option PV
  | [.int i] => iD (if i < 0 then -i else i)
  | _ => none
theorem cd_abs : CallD X fx (.builtin "abs") absD := by
  refine ⟨_, call_abs, ?_⟩
  intro s xs ds pv Q a r e k
  unfold absD iD at e
  split at e <;> cases e
  obtain ⟨x, rfl, rx⟩ := r.one
  cases (show x = .int _ from rx)
  exact ⟨_, rfl, keep_dat a k rfl⟩
def intD : List D → Option PV
  | [.int i] => iD i
  | [.bl b] => iD (if b then 1 else 0)
  | [.str z] => match PySem.intText? z with
    | some n => if z.length ≤ 640 then iD n else none
    | none => none
  | _ => none
theorem cd_int : CallD X fx (.type "int") intD := by
  refine ⟨_, call_int1.or call_int_str, ?_⟩
  intro s xs ds pv Q a r e k
  unfold intD iD at e
  split at e
  · cases e
    obtain ⟨x, rfl, rx⟩ := r.one
    cases (show x = .int _ from rx)
    exact .inl (.inl ⟨_, rfl, keep_dat a k rfl⟩)
  · cases e
    obtain ⟨x, rfl, rx⟩ := r.one
    cases (show x = .bl _ from rx)
    exact .inl (.inr ⟨_, rfl, keep_dat a k rfl⟩)
  · obtain ⟨x, rfl, rx⟩ := r.one
    cases (show x = .str _ from rx)
    split at e <;> try cases e
    rename_i n hn
    split at e <;> cases e
    rename_i hz
    exact .inr ⟨_, n, rfl, hn, hz, keep_dat a k rfl⟩
  · cases e
def strD : List D → Option PV
  | [.int i] => if i.natAbs.log2 < 1920 then some (.dat (.str (toString i))) else none
  | [.str z] => some (.dat (.str z))
  | _ => none
theorem cd_str : CallD X fx (.type "str") strD := by
  refine ⟨_, call_str_int.or SkE.call_str_str, ?_⟩
  intro s xs ds pv Q a r e k
  unfold strD at e
  split at e
  · split at e <;> cases e
    rename_i hz
    obtain ⟨x, rfl, rx⟩ := r.one
    cases (show x = .int _ from rx)
    exact .inl ⟨_, rfl, hz, keep_dat a k rfl⟩
  · cases e
    obtain ⟨x, rfl, rx⟩ := r.one
    cases (show x = .str _ from rx)
    exact .inr ⟨_, rfl, keep_dat a k rfl⟩
  · cases e
def listD : List D → Option PV
  | [.lst xs] => some (.fresh (.lst xs))
  | [.tup xs] => some (.fresh (.lst xs))
  | _ => none
theorem cd_list : CallD X fx (.type "list") listD := by
  refine ⟨_, call_list_of, ?_⟩
  intro s xs ds pv Q a r e k
  unfold listD at e
  split at e
  · cases e
    obtain ⟨x, rfl, rx⟩ := r.one
    obtain ⟨p, vs, rfl, h1, h2⟩ := RepV.ref_lst rx
    exact ⟨p, vs, rfl, .inl h1.sq, fun l hl => k (.ref l) (s.layO l _) rfl (.layO a hl) (Sr.lst a hl h2) fun l' e => by cases e; exact hl⟩
  · cases e
    obtain ⟨x, rfl, rx⟩ := r.one
    obtain ⟨p, vs, rfl, h1, h2⟩ := RepV.ref_tup rx
    exact ⟨p, vs, rfl, .inr (SqT.le hid_le h1), fun l hl => k (.ref l) (s.layO l _) rfl (.layO a hl) (Sr.lst a hl h2) fun l' e => by cases e; exact hl⟩
  · cases e
def tupleD : List D → Option PV
  | [.lst xs] => some (.dat (.tup xs))
  | [.tup xs] => some (.dat (.tup xs))
  | _ => none
theorem cd_tuple : CallD X fx (.type "tuple") tupleD := by
  refine ⟨_, call_tuple_of, ?_⟩
  intro s xs ds pv Q a r e k
  unfold tupleD at e
  split at e
  · cases e
    obtain ⟨x, rfl, rx⟩ := r.one
    obtain ⟨p, vs, rfl, h1, h2⟩ := RepV.ref_lst rx
    exact ⟨p, vs, rfl, .inl ⟨h1.sq, fun l hl => k (.ref l) (s.lay l _) rfl (.lay a hl) (Sr.tup a hl h2) trivial⟩⟩
  · cases e
    obtain ⟨x, rfl, rx⟩ := r.one
    obtain ⟨p, vs, rfl, h1, h2⟩ := RepV.ref_tup rx
    exact ⟨p, vs, rfl, .inr ⟨SqT.le hid_le h1, keep_dat a k ⟨p, vs, rfl, h1, h2⟩⟩⟩
  · cases e
/-- a list of truths, of ints -/
def blsOf : List D → Option (List Bool)
  | [] => some []
  | .bl b :: ds => (blsOf ds).map (b :: ·)
  | _ => none
def intsOf : List D → Option (List Int)
  | [] => some []
  | .int b :: ds => (intsOf ds).map (b :: ·)
  | _ => none
theorem blsOf_ok {R : RC} {H : Hp} : ∀ {ds : List D} {vs : List V} {bs : List Bool}, RepL R H ds vs → blsOf ds = some bs → vs = bs.map V.bl
  | [], vs, bs, r, e => by cases e; exact r
  | d :: ds, vs, bs, r, e => by
    obtain ⟨v, ws, rfl, p, q⟩ := r
    cases d with
    | bl b =>
      unfold blsOf at e
      cases h : blsOf ds with
      | none => rw [h] at e; cases e
      | some bs' =>
        rw [h] at e
        cases e
        cases (show v = .bl b from p)
        rw [blsOf_ok q h]
        rfl
    | _ => cases e
theorem intsOf_ok {R : RC} {H : Hp} : ∀ {ds : List D} {vs : List V} {bs : List Int}, RepL R H ds vs → intsOf ds = some bs → vs = bs.map V.int
  | [], vs, bs, r, e => by cases e; exact r
  | d :: ds, vs, bs, r, e => by
    obtain ⟨v, ws, rfl, p, q⟩ := r
    cases d with
    | int b =>
      unfold intsOf at e
      cases h : intsOf ds with
      | none => rw [h] at e; cases e
      | some bs' =>
        rw [h] at e
        cases e
        cases (show v = .int b from p)
        rw [intsOf_ok q h]
        rfl
    | _ => cases e
def allD : List D → Option PV
  | [.lst xs] => match blsOf xs with
    | some bs => some (.dat (.bl (bs.all id)))
    | none => none
  | _ => none
theorem cd_all (hc : X.calm = true) : CallD X fx (.builtin "all") allD := by
  refine ⟨_, cr_all hc, ?_⟩
  intro s xs ds pv Q a r e k
  unfold allD at e
  split at e
  · split at e <;> cases e
    rename_i bs hb
    obtain ⟨x, rfl, rx⟩ := r.one
    obtain ⟨p, vs, rfl, h1, h2⟩ := RepV.ref_lst rx
    cases blsOf_ok h2 hb
    exact ⟨p, bs, rfl, h1.sq, keep_dat a k rfl⟩
  · cases e
def sumD : List D → Option PV
  | [.lst xs] => match intsOf xs with
    | some bs => iD bs.sum
    | none => none
  | _ => none
theorem cd_sum (hc : X.calm = true) : CallD X fx (.builtin "sum") sumD := by
  refine ⟨_, cr_sum hc, ?_⟩
  intro s xs ds pv Q a r e k
  unfold sumD iD at e
  split at e
  · split at e <;> cases e
    rename_i bs hb
    obtain ⟨x, rfl, rx⟩ := r.one
    obtain ⟨p, vs, rfl, h1, h2⟩ := RepV.ref_lst rx
    cases intsOf_ok h2 hb
    exact ⟨p, bs, rfl, h1.sq, keep_dat a k rfl⟩
  · cases e
def minD : List D → Option PV
  | [.int i, .int j] => iD (if j < i then j else i)
  | _ => none
def maxD : List D → Option PV
  | [.int i, .int j] => iD (if j > i then j else i)
  | _ => none
theorem cd_min (hc : X.calm = true) : CallD X fx (.builtin "min") minD := by
  refine ⟨_, call_min2 hc, ?_⟩
  intro s xs ds pv Q a r e k
  unfold minD iD at e
  split at e <;> cases e
  obtain ⟨x, y, rfl, rx, ry⟩ := r.two
  cases (show x = .int _ from rx)
  cases (show y = .int _ from ry)
  exact ⟨_, _, rfl, keep_dat a k rfl⟩
theorem cd_max (hc : X.calm = true) : CallD X fx (.builtin "max") maxD := by
  refine ⟨_, call_max2 hc, ?_⟩
  intro s xs ds pv Q a r e k
  unfold maxD iD at e
  split at e <;> cases e
  obtain ⟨x, y, rfl, rx, ry⟩ := r.two
  cases (show x = .int _ from rx)
  cases (show y = .int _ from ry)
  exact ⟨_, _, rfl, keep_dat a k rfl⟩

/-! ### isinstance with a built-in class -/
def tyN : D → Option String
  | .non => some "NoneType"
  | .bl _ => some "bool"
  | .int _ => some "int"
  | .str _ => some "str"
  | .tup _ => some "tuple"
  | .lst _ => some "list"
  | .dct _ _ => some "dict"
  | .ins _ _ _ => none
  | .exn _ _ => none
  | .adr _ => none
theorem ty_ok {R : RC} {s : SS} {v : V} {T : String} : ∀ {d : D}, RepV R s d v → tyN d = some T → TyX R.K s.H v (.type T)
  | .non, r, e => by cases e; cases (show v = .non from r); exact .base .non
  | .bl _, r, e => by cases e; cases (show v = .bl _ from r); exact .base (.bl _)
  | .int _, r, e => by cases e; cases (show v = .int _ from r); exact .base (.int _)
  | .str _, r, e => by cases e; cases (show v = .str _ from r); exact .base (.str _)
  | .tup _, r, e => by
    cases e
    obtain ⟨a, vs, rfl, q, _⟩ := r
    rcases SqT.le hid_le q with (q | ⟨o, q⟩) | ⟨o, its, n, hk, hc, _⟩
    · exact .base (.tup q)
    · exact .fTuple q
    · exact .kTuple hk hc
  | .lst _, r, e => by
    cases e
    obtain ⟨a, vs, rfl, q, _⟩ := r
    rcases q with (q | ⟨o, q⟩) | ⟨its, n, hk, _⟩
    · exact .base (.lst q)
    · exact .base (.frz q)
    · exact .kList hk rfl
  | .dct _ _, r, e => by
    cases e
    obtain ⟨a, vs, rfl, q, _⟩ := r
    rcases q with q | ⟨o, q⟩
    · exact .base (.dK q)
    · exact .fDict q
  | .ins _ _ _, r, e => by cases e
  | .exn _ _, r, e => by cases e
  | .adr _, r, e => by cases e
def isiB (T : String) (d : D) : Option Bool := match tyN d with
  | some n => kitB n T
  | none => none
def eIsiB (T : String) (f : F1) : F1 := fun e => (f e).bind fun p e1 => match res p e1 with
  | some d => match isiB T d with
    | some b => .ok (.dat (.bl b)) e1
    | none => .bot
  | none => .bot
theorem de_isiB {T : String} {x y : Str} {p p2 : Pos} (hg : Gl X x) (hm : X.mg x = none) (hv : bootBuiltins x = some (.builtin "isinstance")) (ha : DE X fx W a f) (hy : Gl X y) (hmy : X.mg y = none) (hvy : bootBuiltins y = some (.type T))
    (hn : x ≠ "__name__" := by decide) (hdb : (x == ("__debug__" : Str)) = false := by decide) (hny : y ≠ "__name__" := by decide) (hdy : (y == ("__debug__" : Str)) = false := by decide)
    (he : starEach [a, .Name y p2] X.env = (false, eval a X.env) :: starEach [.Name y p2] X.env := by rfl) (he2 : starEach [.Name y p2] X.env = (false, eval (.Name y p2) X.env) :: starEach [] X.env := by rfl) (hpl : (backTo pos (starEach [.Name y p2] X.env)).any (·.1) = false := by rfl) :
    DE X fx W (.Call (.Name x p) [a, .Name y p2] [] pos) (eIsiB T f) := by
  refine PE.imp (pe_callB call_isi hg hm hv (pa_cons ha (pa_cons (pe_bltn (v := .ty T) hy hmy hvy rfl hny hdy) pa_nil he2) he) hn hdb he hpl) fun σ H Q q => ?_
  obtain ⟨e, A, a0, q⟩ := q
  refine ⟨e, A, a0, (EPost.bnd a0 q).mono fun v H1 ⟨e1, A1, p, x1, r1, h1, _⟩ => ?_⟩
  cases q1 : res p e1 with
  | none => simp only [q1] at h1; exact h1.elim
  | some d =>
    simp only [q1] at h1
    cases q2 : isiB T d with
    | none => simp only [q2] at h1; exact h1.elim
    | some k =>
      simp only [q2] at h1
      unfold isiB at q2
      cases q3 : tyN d with
      | none => rw [q3] at q2; cases q2
      | some N =>
        rw [q3] at q2
        exact ⟨v, .ty T, .type N, .type T, k, rfl, .ty T, ty_ok (s := ⟨σ, e1, A1, H1⟩) (Sr.val x1.ab r1.1 q1) q3, kit_ty q2, h1 (.bl k) _ rfl (.refl x1.ab) ⟨rfl, trivial⟩⟩
end
end DL

set_option Elab.async false
set_option linter.all false
set_option maxRecDepth 100000
namespace DL
open PySem PySem.Spec L2

/-- what a statement ends in -/
inductive SO where
  | nx (e : DEnv)
  | rt (p : PV) (e : DEnv)
  | bk (e : DEnv)
  | ct (e : DEnv)
  | ex (x : Exn) (e : DEnv)
  | bot
abbrev FS := DEnv → SO
def EO.bindS {α : Type} (o : EO α) (k : α → DEnv → SO) : SO := match o with
  | .ok a e => k a e
  | .ex x e => .ex x e
  | .bot => .bot
/-- a step of statements -/
structure St2 (R : RC) (fx : List (Nat × V)) (s t : SS) : Prop where
  nx : Sn s t
  ab : Sa R fx t
theorem St2.refl {R : RC} {fx : List (Nat × V)} {s : SS} (a : Sa R fx s) : St2 R fx s s := ⟨Sn.refl, a⟩
theorem St2.trans {R : RC} {fx : List (Nat × V)} {s t u : SS} (a : Sa R fx s) (x : St2 R fx s t) (y : St2 R fx t u) : St2 R fx s u := ⟨Sn.trans a x.nx y.nx, y.ab⟩
theorem St1.st2 {R : RC} {fx : List (Nat × V)} {s t : SS} (x : St1 R fx s t) : St2 R fx s t := ⟨x.nx, x.ab⟩
theorem Fr.back2 {R : RC} {fx : List (Nat × V)} {s t : SS} {v : V} {p : PV} (x : St2 R fx s t) (h : Fr t.H v p) : Fr s.H v p := by
  cases p with
  | fresh d => exact fun l e => x.nx.free (h l e)
  | dat d => trivial
  | pk i => trivial
def SPost (R : RC) (fx : List (Nat × V)) (W : WX) (D : Ends) (s : SS) : SO → Prop
  | .nx e => ∀ t : SS, t.e = e → St2 R fx s t → D.nx t.σ t.H
  | .bk e => ∀ t : SS, t.e = e → St2 R fx s t → D.bk t.σ t.H
  | .ct e => ∀ t : SS, t.e = e → St2 R fx s t → D.ct t.σ t.H
  | .rt p e => ∀ (v : V) (t : SS), t.e = e → St2 R fx s t → Sr R t v p → Fr s.H v p → D.rt v t.H
  | .ex x e => ∀ (cls : Value) (dd : Option Addr) (t : SS), t.e = e → St2 R fx s t → ExR R t x cls dd → W cls dd t.σ t.H
  | .bot => False
theorem SPost.later {R : RC} {fx : List (Nat × V)} {W : WX} {D : Ends} {s t : SS} {o : SO} (a : Sa R fx s) (x : St2 R fx s t) (h : SPost R fx W D s o) : SPost R fx W D t o := by
  cases o with
  | nx e => exact fun u e1 y => h u e1 (x.trans a y)
  | bk e => exact fun u e1 y => h u e1 (x.trans a y)
  | ct e => exact fun u e1 y => h u e1 (x.trans a y)
  | rt p e => exact fun v u e1 y r f => h v u e1 (x.trans a y) r (f.back2 x)
  | ex x' e => exact fun c d u e1 y r => h c d u e1 (x.trans a y) r
  | bot => exact h
theorem SPost.bnd {α β : Type} {R : RC} {fx : List (Nat × V)} {Rel : Rl R fx β α} {W : WX} {D : Ends} {s : SS} {o : EO α} {k : α → DEnv → SO} (a : Sa R fx s) (h : SPost R fx W D s (o.bindS k)) :
    EPost Rel W s (fun v H1 => ∃ e1 A1 p, St1 R fx s ⟨s.σ, e1, A1, H1⟩ ∧ Rel.rel s ⟨s.σ, e1, A1, H1⟩ v p ∧ SPost R fx W D ⟨s.σ, e1, A1, H1⟩ (k p e1) ∧ SPost R fx W D s (k p e1)) o := by
  cases o with
  | ok p e =>
    intro v t e1 x r
    obtain ⟨σ1, e1', A1, H1⟩ := t
    obtain rfl : σ1 = s.σ := x.eq
    obtain rfl : e1' = e := e1
    exact ⟨_, A1, p, x, r, SPost.later a x.st2 h, h⟩
  | ex x e => exact fun c d t e1 y r => h c d t e1 y.st2 r
  | bot => exact h
def rdS (R : RC) (fx : List (Nat × V)) (W : WX) (F : FS) : TS := fun D σ H => ∃ e A, Sa R fx ⟨σ, e, A, H⟩ ∧ SPost R fx W D ⟨σ, e, A, H⟩ (F e)
def DS (X : Cx) (fx : List (Nat × V)) (W : WX) (st : Stmt) (F : FS) : Prop := PS X st (rdS (rc X) fx W F)
def DSs (X : Cx) (fx : List (Nat × V)) (W : WX) (st : List Stmt) (F : FS) : Prop := PSs X st (rdS (rc X) fx W F)
theorem PS.imp {X : Cx} {st : Stmt} {t t' : TS} (h : PS X st t) (i : ∀ D σ H, t' D σ H → t D σ H) : PS X st t' := ⟨fun pins s σ H D I q => h.run pins s σ H D I (i D σ H q)⟩
theorem PSs.imp {X : Cx} {st : List Stmt} {t t' : TS} (h : PSs X st t) (i : ∀ D σ H, t' D σ H → t D σ H) : PSs X st t' := ⟨fun pins s σ H D I q => h.run pins s σ H D I (i D σ H q)⟩

section
variable {X : Cx} {fx : List (Nat × V)} {W : WX} {pos : Pos} {a b c : Expr} {f g h : F1} {F G : FS}
/-! ### blocks, simple statements -/
def sNx : FS := fun e => .nx e
def sSeq (F G : FS) : FS := fun e => match F e with
  | .nx e1 => G e1
  | o => o
theorem dss_nil : DSs X fx W [] sNx := PSs.imp pss_nil fun D σ H q => by
  obtain ⟨e, A, a0, q⟩ := q
  exact q _ rfl (.refl a0)
theorem seq_post {D : Ends} {σ : L2.St} {H : Hp} (q : rdS (rc X) fx W (sSeq F G) D σ H) : rdS (rc X) fx W F { D with nx := rdS (rc X) fx W G D } σ H := by
  obtain ⟨e, A, a0, q⟩ := q
  refine ⟨e, A, a0, ?_⟩
  unfold sSeq at q
  cases hf : F e with
  | nx e1 =>
    rw [hf] at q
    intro t et st
    obtain ⟨σ1, e2, A1, H1⟩ := t
    obtain rfl : e2 = e1 := et
    exact ⟨_, A1, st.ab, SPost.later a0 st q⟩
  | rt p e1 => rw [hf] at q; exact q
  | bk e1 => rw [hf] at q; exact q
  | ct e1 => rw [hf] at q; exact q
  | ex x e1 => rw [hf] at q; exact q
  | bot => rw [hf] at q; exact q
theorem dss_cons {st : Stmt} {rest : List Stmt} (h1 : DS X fx W st F) (h2 : DSs X fx W rest G) : DSs X fx W (st :: rest) (sSeq F G) :=
  PSs.imp (pss_cons h1 h2) fun D σ H q => seq_post q
theorem dss_one {st : Stmt} (h1 : DS X fx W st F) : DSs X fx W [st] F := pss_one h1
theorem ds_pass : DS X fx W (.Pass pos) sNx := PS.imp ps_pass fun D σ H q => by
  obtain ⟨e, A, a0, q⟩ := q
  exact q _ rfl (.refl a0)
def sBk : FS := fun e => .bk e
def sCt : FS := fun e => .ct e
theorem ds_break : DS X fx W (.Break pos) sBk := PS.imp ps_break fun D σ H q => by
  obtain ⟨e, A, a0, q⟩ := q
  exact q _ rfl (.refl a0)
theorem ds_continue : DS X fx W (.Continue pos) sCt := PS.imp ps_continue fun D σ H q => by
  obtain ⟨e, A, a0, q⟩ := q
  exact q _ rfl (.refl a0)
def sExpr (f : F1) : FS := fun e => (f e).bindS fun _ e1 => .nx e1
theorem ds_expr (ha : DE X fx W a f) (hs : swapsWith a none pos.line X.env = pure false := by rfl) : DS X fx W (.Expr a pos) (sExpr f) := PS.imp (ps_expr ha hs) fun D σ H q => by
  obtain ⟨e, A, a0, q⟩ := q
  refine ⟨e, A, a0, (SPost.bnd a0 q).mono fun x H1 ⟨e1, A1, p, x1, r1, h1, _⟩ => ?_⟩
  exact h1 _ rfl (.refl x1.ab)
def sRet (f : F1) : FS := fun e => (f e).bindS fun p e1 => .rt p e1
theorem ds_ret (ha : DE X fx W a f) : DS X fx W (.Return (some a) pos) (sRet f) := PS.imp (ps_ret ha) fun D σ H q => by
  obtain ⟨e, A, a0, q⟩ := q
  refine ⟨e, A, a0, (SPost.bnd a0 q).mono fun x H1 ⟨e1, A1, p, x1, r1, _, h1⟩ => ?_⟩
  exact h1 x _ rfl x1.st2 r1.1 r1.2
def sRetN : FS := fun e => .rt (.dat .non) e
theorem ds_retN : DS X fx W (.Return none pos) sRetN := PS.imp ps_retN fun D σ H q => by
  obtain ⟨e, A, a0, q⟩ := q
  exact q .non _ rfl (.refl a0) rfl trivial
def sIf (t : FB) (F G : FS) : FS := fun e => (t e).bindS fun k e1 => match k with
  | true => F e1
  | false => G e1
theorem ds_if {t : FB} {p q : List Stmt} (hc : DT X fx W c t) (ha : DSs X fx W p F) (hb : DSs X fx W q G) : DS X fx W (.If c p q pos) (sIf t F G) := PS.imp (ps_if hc ha hb) fun D σ H q => by
  obtain ⟨e, A, a0, q⟩ := q
  refine ⟨e, A, a0, (SPost.bnd a0 q).mono fun x H1 ⟨e1, A1, p, x1, r1, h1, _⟩ => ?_⟩
  obtain rfl : x = p := r1
  cases x with
  | true => exact iteT ⟨e1, A1, x1.ab, h1⟩
  | false => exact iteF ⟨e1, A1, x1.ab, h1⟩
/-- a statement that is never reached -/
def sBot : FS := fun _ => .bot
theorem ds_never {st : Stmt} : DS X fx W st sBot := PS.imp ps_never fun D σ H q => by
  obtain ⟨e, A, a0, q⟩ := q
  exact q
end

/-! ### a slot is set -/
section
variable {R : RC} {fx : List (Nat × V)} {s : SS}
theorem set_get {e : DEnv} {i j : Nat} {c d : Cell} (z : (e.set i c)[j]? = some d) : (j = i ∧ i < e.length ∧ d = c) ∨ (j ≠ i ∧ e[j]? = some d) := by
  by_cases hj : j = i
  · subst hj
    have hl : j < e.length := by
      have := (List.getElem?_eq_some_iff.mp z).1
      rwa [List.length_set] at this
    rw [List.getElem?_set_self hl] at z
    exact .inl ⟨rfl, hl, (Option.some.inj z).symm⟩
  · rw [List.getElem?_set_ne (Ne.symm hj)] at z
    exact .inr ⟨hj, z⟩
theorem set_val {i : Nat} {v : V} {d : D} (a : Sa R fx s) (hf : fx.all (fun p => p.1 != i) = true) (r : Rep R (hid s.A s.H) d v) : St2 R fx s ⟨s.σ.set i (some v), s.e.set i (.val d), s.A, s.H⟩ := by
  have own' : ∀ b, Own (s.σ.set i (some v)) (s.e.set i (.val d)) b → Own s.σ s.e b := fun b ⟨j, dj, z1, z2⟩ => by
    rcases set_get z1 with ⟨_, _, z3⟩ | ⟨hj, z3⟩
    · cases z3
    · rw [List.getElem?_set_ne (Ne.symm hj)] at z2
      exact ⟨j, dj, z3, z2⟩
  refine ⟨⟨fun _ _ _ h => h, fun _ h => .inl h, fun b h => .inl (own' b h), fun _ h _ => h, fun _ o h => ⟨o, h⟩⟩, ?_⟩
  refine ⟨by simpa using a.len, fun p hp => ?_, fun j dj z => ?_, fun j dj z => ?_, fun j k dj dk l z1 z2 z3 z4 => ?_, a.dom⟩
  · have hne : p.1 ≠ i := by
      have := List.all_eq_true.mp hf p hp
      simpa using this
    show (s.σ.set i (some v))[p.1]? = _
    rw [List.getElem?_set_ne (Ne.symm hne)]
    exact a.fix p hp
  · rcases set_get z with ⟨rfl, hl, z3⟩ | ⟨hj, z3⟩
    · cases z3
      exact ⟨v, List.getElem?_set_self (by rw [a.len]; exact hl), r⟩
    · obtain ⟨w, q1, q2⟩ := a.val j dj z3
      exact ⟨w, by show (s.σ.set i (some v))[j]? = _; rw [List.getElem?_set_ne (Ne.symm hj)]; exact q1, q2⟩
  · rcases set_get z with ⟨_, _, z3⟩ | ⟨hj, z3⟩
    · cases z3
    · obtain ⟨l, ho, q1, q2⟩ := a.own j dj z3
      exact ⟨l, ho, by show (s.σ.set i (some v))[j]? = _; rw [List.getElem?_set_ne (Ne.symm hj)]; exact q1, q2⟩
  · rcases set_get z1 with ⟨_, _, y1⟩ | ⟨hj, y1⟩
    · cases y1
    · rcases set_get z2 with ⟨_, _, y2⟩ | ⟨hk, y2⟩
      · cases y2
      · have w3 : s.σ[j]? = some (some (.ref l)) := by
          have z3' : (s.σ.set i (some v))[j]? = _ := z3
          rw [List.getElem?_set_ne (Ne.symm hj)] at z3'
          exact z3'
        have w4 : s.σ[k]? = some (some (.ref l)) := by
          have z4' : (s.σ.set i (some v))[k]? = _ := z4
          rw [List.getElem?_set_ne (Ne.symm hk)] at z4'
          exact z4'
        exact a.inj j k dj dk l y1 y2 w3 w4
theorem set_own {i : Nat} {b : SS} {l : Addr} {ho : HO} {d : D} (ab : Sa R fx b) (x : St2 R fx b s) (fr : b.H l = none) (hf : fx.all (fun p => p.1 != i) = true) (hA : s.A l) (hn : ¬ Own s.σ s.e l) (hl : s.H l = some ho) (r : OwnR R (hid s.A s.H) d ho) :
    St2 R fx b ⟨s.σ.set i (some (.ref l)), s.e.set i (.own d), s.A, s.H⟩ := by
  have a := x.ab
  have own' : ∀ c, Own (s.σ.set i (some (.ref l))) (s.e.set i (.own d)) c → Own s.σ s.e c ∨ c = l := fun c ⟨j, dj, z1, z2⟩ => by
    rcases set_get z1 with ⟨rfl, hl', z3⟩ | ⟨hj, z3⟩
    · rw [List.getElem?_set_self (by rw [a.len]; exact hl')] at z2
      cases z2
      exact .inr rfl
    · rw [List.getElem?_set_ne (Ne.symm hj)] at z2
      exact .inl ⟨j, dj, z3, z2⟩
  refine ⟨⟨x.nx.keep, x.nx.sub, fun c h => ?_, x.nx.sup, x.nx.there⟩, ?_⟩
  · rcases own' c h with z | rfl
    · exact x.nx.own c z
    · exact .inr fr
  refine ⟨by simpa using a.len, fun p hp => ?_, fun j dj z => ?_, fun j dj z => ?_, fun j k dj dk c z1 z2 z3 z4 => ?_, a.dom⟩
  · have hne : p.1 ≠ i := by
      have := List.all_eq_true.mp hf p hp
      simpa using this
    show (s.σ.set i (some (.ref l)))[p.1]? = _
    rw [List.getElem?_set_ne (Ne.symm hne)]
    exact a.fix p hp
  · rcases set_get z with ⟨_, _, z3⟩ | ⟨hj, z3⟩
    · cases z3
    · obtain ⟨w, q1, q2⟩ := a.val j dj z3
      exact ⟨w, by show (s.σ.set i (some (.ref l)))[j]? = _; rw [List.getElem?_set_ne (Ne.symm hj)]; exact q1, q2⟩
  · rcases set_get z with ⟨rfl, hl', z3⟩ | ⟨hj, z3⟩
    · cases z3
      exact ⟨l, ho, List.getElem?_set_self (by rw [a.len]; exact hl'), hA, hl, r⟩
    · obtain ⟨l', ho', q1, q2⟩ := a.own j dj z3
      exact ⟨l', ho', by show (s.σ.set i (some (.ref l)))[j]? = _; rw [List.getElem?_set_ne (Ne.symm hj)]; exact q1, q2⟩
  · have w : ∀ {m : Nat} {u : V}, m ≠ i → (s.σ.set i (some (.ref l)))[m]? = some (some u) → s.σ[m]? = some (some u) := fun {m u} hm z => by
      rw [List.getElem?_set_ne (Ne.symm hm)] at z
      exact z
    rcases set_get z1 with ⟨rfl, hl', y1⟩ | ⟨hj, y1⟩
    · rcases set_get z2 with ⟨rfl, _, y2⟩ | ⟨hk, y2⟩
      · rfl
      · have z3' : (s.σ.set j (some (.ref l)))[j]? = _ := z3
        rw [List.getElem?_set_self (by rw [a.len]; exact hl')] at z3'
        cases z3'
        exact (hn ⟨k, dk, y2, w hk z4⟩).elim
    · rcases set_get z2 with ⟨rfl, hl', y2⟩ | ⟨hk, y2⟩
      · have z4' : (s.σ.set k (some (.ref l)))[k]? = _ := z4
        rw [List.getElem?_set_self (by rw [a.len]; exact hl')] at z4'
        cases z4'
        exact (hn ⟨j, dj, y1, w hj z3⟩).elim
      · exact a.inj j k dj dk c y1 y2 (w hj z3) (w hk z4)
end
section
variable {X : Cx} {fx : List (Nat × V)} {W : WX} {pos : Pos} {a b c : Expr} {f g h : F1} {F G : FS}
/-- what slot i holds when it is given p -/
def putC (i : Nat) (p : PV) (e : DEnv) : Option DEnv := match p with
  | .dat d => some (e.set i (.val d))
  | .fresh d => some (e.set i (.own d))
  | .pk j => match frz (.pk j) e with
    | some (d, e2) => some (e2.set i (.val d))
    | none => none
theorem putC_ok {R : RC} {b s : SS} {i : Nat} {v : V} {p : PV} {e' : DEnv} (ab : Sa R fx b) (x : St1 R fx b s) (r : Sr R s v p) (fr : Fr b.H v p) (hf : fx.all (fun p => p.1 != i) = true) (h : putC i p s.e = some e') :
    ∃ A', St2 R fx b ⟨s.σ.set i (some v), e', A', s.H⟩ := by
  cases p with
  | dat d =>
    cases h
    exact ⟨s.A, (x.st2).trans ab (set_val x.ab hf r)⟩
  | fresh d =>
    cases h
    obtain ⟨l, ho, rfl, hA, hn, hl, q⟩ := r
    exact ⟨s.A, set_own ab x.st2 (fr l rfl) hf hA hn hl q⟩
  | pk j =>
    unfold putC at h
    cases hz : frz (.pk j) s.e with
    | none => simp only [hz] at h; cases h
    | some z =>
      obtain ⟨d, e2⟩ := z
      simp only [hz] at h
      cases h
      obtain ⟨t, rfl, eh, y, rd⟩ := frz_ok ab x r fr hz
      have q := (y.st2).trans ab (set_val y.ab hf rd)
      have eσ : t.σ = s.σ := y.eq.trans x.eq.symm
      rw [eσ, eh] at q
      exact ⟨t.A, q⟩
def sSet (i : Nat) (f : F1) : FS := fun e => (f e).bindS fun p e1 => match putC i p e1 with
  | some e2 => .nx e2
  | none => .bot
theorem ds_set {i : Nat} {x : Str} {pos' : Pos} (hN : X.N.Nodup) (hi : X.N[i]? = some x) (hx : Loc X.env.scope x) (ha : DE X fx W a f) (hfx : fx.all (fun p => p.1 != i) = true := by rfl) (hs : swapsWith a (some (.Name x pos')) pos.line X.env = pure false := by rfl)
    (hf : X.fn x = true ∨ X.env.scope.names.lookup x = some .local := by first | exact .inl rfl | exact .inr rfl | assumption) : DS X fx W (.Assign [.Name x pos'] a pos) (sSet i f) := PS.imp (ps_set hN hi hx ha hs hf) fun D σ H q => by
  obtain ⟨e, A, a0, q⟩ := q
  refine ⟨e, A, a0, (SPost.bnd a0 q).mono fun v H1 ⟨e1, A1, p, x1, r1, _, h1⟩ => ?_⟩
  cases hp : putC i p e1 with
  | none => simp only [hp] at h1; exact h1.elim
  | some e2 =>
    simp only [hp] at h1
    obtain ⟨A', st⟩ := putC_ok (s := ⟨σ, e1, A1, H1⟩) a0 x1 r1.1 r1.2 hfx hp
    exact h1 _ rfl st
end
end DL

set_option Elab.async false
set_option linter.all false
set_option maxRecDepth 100000
namespace DL
open PySem PySem.Spec L2

/-! ### targets: a given datum is stored -/
abbrev FG := D → DEnv → Option DEnv
/-- alike but for the slots of sl -/
def Out (sl : List Nat) (σ σ' : L2.St) : Prop := ∀ i, i ∉ sl → σ'[i]? = σ[i]?
theorem Out.refl {sl : List Nat} {σ : L2.St} : Out sl σ σ := fun _ _ => rfl
theorem Out.set {i : Nat} {σ : L2.St} {v : Option V} : Out [i] σ (σ.set i v) := fun j h => List.getElem?_set_ne (fun e => h (by simp [e]))
theorem Out.trans {s1 s2 : List Nat} {σ σ1 σ2 : L2.St} (x : Out s1 σ σ1) (y : Out s2 σ1 σ2) : Out (s1 ++ s2) σ σ2 := fun i h =>
  (y i fun z => h (List.mem_append_right _ z)).trans (x i fun z => h (List.mem_append_left _ z))
def OutE (sl : List Nat) (e e' : DEnv) : Prop := e'.length = e.length ∧ ∀ i, i ∉ sl → e'[i]? = e[i]?
theorem OutE.trans {s1 s2 : List Nat} {σ σ1 σ2 : DEnv} (x : OutE s1 σ σ1) (y : OutE s2 σ1 σ2) : OutE (s1 ++ s2) σ σ2 := ⟨y.1.trans x.1, fun i h =>
  (y.2 i fun z => h (List.mem_append_right _ z)).trans (x.2 i fun z => h (List.mem_append_left _ z))⟩
def rdG (R : RC) (fx : List (Nat × V)) (sl : List Nat) (g : FG) : TG := fun v σ H Q => ∃ e A d e', Sa R fx ⟨σ, e, A, H⟩ ∧ Rep R (hid A H) d v ∧ g d e = some e' ∧ ∀ t : SS, t.e = e' → St2 R fx ⟨σ, e, A, H⟩ t → Out sl σ t.σ → OutE sl e t.e → Q t.σ t.H
abbrev FGs := List D → DEnv → Option DEnv
def rdGs (R : RC) (fx : List (Nat × V)) (sl : List Nat) (g : FGs) : TGs := fun vs σ H Q => ∃ e A ds e', Sa R fx ⟨σ, e, A, H⟩ ∧ RepL R (hid A H) ds vs ∧ g ds e = some e' ∧ ∀ t : SS, t.e = e' → St2 R fx ⟨σ, e, A, H⟩ t → Out sl σ t.σ → OutE sl e t.e → Q t.σ t.H
def DG (X : Cx) (fx : List (Nat × V)) (sl : List Nat) (e : Expr) (g : FG) : Prop := PG X e (rdG (rc X) fx sl g)
def DGs (X : Cx) (fx : List (Nat × V)) (sl : List Nat) (es : List Expr) (g : FGs) : Prop := PGs X es (rdGs (rc X) fx sl g)
theorem PG.imp {X : Cx} {e : Expr} {t t' : TG} (h : PG X e t) (i : ∀ v σ H Q, t' v σ H Q → t v σ H Q) : PG X e t' := ⟨fun pins s σ H v u Q I r q => h.run pins s σ H v u Q I r (i v σ H Q q)⟩
theorem PGs.imp {X : Cx} {e : List Expr} {t t' : TGs} (h : PGs X e t) (i : ∀ v σ H Q, t' v σ H Q → t v σ H Q) : PGs X e t' := ⟨fun pins s σ H v u Q I r q => h.run pins s σ H v u Q I r (i v σ H Q q)⟩
section
variable {X : Cx} {fx : List (Nat × V)} {W : WX} {pos : Pos} {a b c : Expr} {f g h : F1} {F G : FS}
def tgN (i : Nat) : FG := fun d e => some (e.set i (.val d))
theorem dg_name {i : Nat} {x : Str} (hN : X.N.Nodup) (hi : X.N[i]? = some x) (hx : Loc X.env.scope x) (hfx : fx.all (fun p => p.1 != i) = true := by rfl) (hf : X.fn x = true ∨ X.env.scope.names.lookup x = some .local := by first | exact .inl rfl | exact .inr rfl | assumption) : DG X fx [i] (.Name x pos) (tgN i) :=
  PG.imp (pg_name hN hi hx hf) fun v σ H Q q => by
    obtain ⟨e, A, d, e', a0, r, he, q⟩ := q
    cases he
    exact q _ rfl (set_val a0 hfx r) .set ⟨List.length_set, fun j h => List.getElem?_set_ne (fun z => h (by simp [z]))⟩
def tgNil : FGs := fun ds e => match ds with
  | [] => some e
  | _ => none
def tgCons (g : FG) (gs : FGs) : FGs := fun ds e => match ds with
  | d :: r => match g d e with
    | some e1 => gs r e1
    | none => none
  | _ => none
theorem dgs_nil : DGs X fx [] [] tgNil := PGs.imp pgs_nil fun v σ H Q q => by
  obtain ⟨e, A, ds, e', a0, r, he, q⟩ := q
  cases ds with
  | nil => cases he; exact ⟨r, q _ rfl (.refl a0) .refl ⟨rfl, fun _ _ => rfl⟩⟩
  | cons d r => cases he
theorem dgs_cons {g : FG} {gs : FGs} {es : List Expr} {s1 s2 : List Nat} (h1 : DG X fx s1 a g) (h2 : DGs X fx s2 es gs) (ho : (assignEach (a :: es) X.env).map (·.2) = assign a X.env :: (assignEach es X.env).map (·.2) := by rfl) : DGs X fx (s1 ++ s2) (a :: es) (tgCons g gs) := PGs.imp (pgs_cons h1 h2 ho) fun v σ H Q q => by
  obtain ⟨e, A, ds, e', a0, r, he, q⟩ := q
  cases ds with
  | nil => cases he
  | cons d r' =>
    obtain ⟨v1, ws, rfl, p, rr⟩ := r
    unfold tgCons at he
    cases hg : g d e with
    | none => simp only [hg] at he; cases he
    | some e1 =>
      simp only [hg] at he
      refine ⟨v1, ws, rfl, e, A, d, e1, a0, p, hg, fun t et st ou oe => ?_⟩
      obtain ⟨σ2, e2, A2, H2⟩ := t
      obtain rfl : e2 = e1 := et
      exact ⟨_, A2, r', e', st.ab, RepL.le (st.nx.hid a0) _ _ rr, he, fun u eu su o2 oe2 => q u eu (st.trans a0 su) (ou.trans o2) (oe.trans oe2)⟩
def tgTup (gs : FGs) : FG := fun d e => match d with
  | .tup ds => gs ds e
  | _ => none
theorem dg_tup {gs : FGs} {es : List Expr} {k n : Nat} {sl : List Nat} (hc : X.calm = true) (h : DGs X fx sl es gs) (hln : ∀ ds e e', gs ds e = some e' → ds.length = n) (hn : (assignEach es X.env).length = n := by rfl) (hst : (assignEach es X.env).findIdx? (·.1) = none := by rfl) : DG X fx sl (.Tuple es k pos) (tgTup gs) :=
  PG.imp (pg_tup hc h hn hst) fun v σ H Q q => by
    obtain ⟨e, A, d, e', a0, r, he, q⟩ := q
    unfold tgTup at he
    split at he
    · obtain ⟨p, vs, rfl, h1, h2⟩ := r
      exact ⟨p, vs, rfl, SqT.le hid_le h1, by rw [RepL.length h2]; exact hln _ _ _ he, e, A, _, e', a0, h2, he, q⟩
    · cases he
theorem tgNil_len {ds : List D} {e e' : DEnv} (h : tgNil ds e = some e') : ds.length = 0 := by
  cases ds with
  | nil => rfl
  | cons d r => cases h
theorem tgCons_len {g : FG} {gs : FGs} {n : Nat} (hln : ∀ ds e e', gs ds e = some e' → ds.length = n) {ds : List D} {e e' : DEnv} (h : tgCons g gs ds e = some e') : ds.length = n + 1 := by
  cases ds with
  | nil => cases h
  | cons d r =>
    unfold tgCons at h
    cases hg : g d e with
    | none => simp only [hg] at h; cases h
    | some e1 =>
      simp only [hg] at h
      rw [List.length_cons, hln _ _ _ h]
/-- t1, t2, .. = e -/
def sAsg (f : F1) (g : FG) : FS := fun e => (f e).bindS fun p e1 => match frz p e1 with
  | some (d, e2) => match g d e2 with
    | some e3 => .nx e3
    | none => .bot
  | none => .bot
theorem ds_asg {tg : Expr} {g : FG} {sl : List Nat} (ha : DE X fx W a f) (hg : DG X fx sl tg g) (hs : swapsWithSole [tg] a pos.line X.env = pure false := by rfl) (hw : swappedStores [tg] a X.env = pure none := by rfl)
    (h1 : (assignEach [tg] X.env).map (·.2) = [assign tg X.env] := by rfl) : DS X fx W (.Assign [tg] a pos) (sAsg f g) := PS.imp (ps_asg ha hg hs hw h1) fun D σ H q => by
  obtain ⟨e, A, a0, q⟩ := q
  refine ⟨e, A, a0, (SPost.bnd a0 q).mono fun v H1 ⟨e1, A1, p, x1, r1, _, h1⟩ => ?_⟩
  cases hp : frz p e1 with
  | none => simp only [hp] at h1; exact h1.elim
  | some z =>
    obtain ⟨d, e2⟩ := z
    simp only [hp] at h1
    obtain ⟨⟨σ2, e2', A2, H2⟩, rfl, rfl, x2, rd⟩ := frz_ok (s := ⟨σ, e1, A1, H1⟩) a0 x1 r1.1 r1.2 hp
    obtain rfl : σ2 = σ := x2.eq
    cases hg : g d e2' with
    | none => simp only [hg] at h1; exact h1.elim
    | some e3 =>
      simp only [hg] at h1
      exact ⟨e2', A2, d, e3, x2.ab, rd, hg, fun t et st _ _ => h1 t et ((x2.st2).trans a0 st)⟩
/-- x, y = a, b (locals) -/
def sPar (i j : Nat) (f g : F1) : FS := fun e => (eItems [f, g] e).bindS fun ds e1 => match ds with
  | [d1, d2] => .nx ((e1.set i (.val d1)).set j (.val d2))
  | _ => .bot
theorem ds_par {i j : Nat} {x y : Str} {px py pt : Pos} {kt k2 pt2} (hc : X.calm = true) (hN : X.N.Nodup) (hi : X.N[i]? = some x) (hj : X.N[j]? = some y) (hij : i ≠ j)
    (hx : X.env.scope.names.lookup x = some .local) (hy : X.env.scope.names.lookup y = some .local) (ha : DD X fx W [a, b] (eItems [f, g]))
    (hw : swappedStores [.Tuple [.Name x px, .Name y py] kt pt] (.Tuple [a, b] k2 pt2) X.env = pure (some [x, y]))
    (hfi : fx.all (fun p => p.1 != i) = true := by rfl) (hfj : fx.all (fun p => p.1 != j) = true := by rfl)
    (hs : swapsWithSole [.Tuple [.Name x px, .Name y py] kt pt] (.Tuple [a, b] k2 pt2) pos.line X.env = pure false := by rfl) :
    DS X fx W (.Assign [.Tuple [.Name x px, .Name y py] kt pt] (.Tuple [a, b] k2 pt2) pos) (sPar i j f g) := PS.imp (ps_par hc hN hi hj hij hx hy ha hw hs) fun D σ H q => by
  obtain ⟨e, A, a0, q⟩ := q
  refine ⟨e, A, a0, (SPost.bnd a0 q).mono fun vs H1 ⟨e1, A1, ds, x1, r1, h1, _⟩ => ?_⟩
  match ds, r1, h1 with
  | [d1, d2], r1, h1 =>
    obtain ⟨v, _, rfl, p1, w, _, rfl, p2, q2⟩ := r1
    cases (show _ = _ from q2)
    refine ⟨v, w, rfl, ?_⟩
    have s1 := set_val (i := i) x1.ab hfi p1
    have s2 := set_val (i := j) s1.ab hfj p2
    exact h1 _ rfl (s1.trans x1.ab s2)
  | [], _, h1 => exact h1.elim
  | [_], _, h1 => exact h1.elim
  | _ :: _ :: _ :: _, _, h1 => exact h1.elim

/-! ### for -/
/-- what is walked: a list's or tuple's items, ints, the signs of a text -/
def forR (g : FG) (F : FS) : List D → FS
  | [], e => .nx e
  | d :: ds, e => match g d e with
    | none => .bot
    | some e1 => match F e1 with
      | .nx e2 => forR g F ds e2
      | .ct e2 => forR g F ds e2
      | .bk e2 => .nx e2
      | .rt p e2 => .rt p e2
      | .ex x e2 => .ex x e2
      | .bot => .bot
/-- an iterable: its items are told, each turn they stand as they stood -/
structure ItOk (R : RC) (fx : List (Nat × V)) (J : It) (xs : List D) (s : SS) : Prop where
  run : ∀ (t : SS) (i : Nat), St2 R fx s t → (i = xs.length → J.stop i t.H) ∧ ∀ d, xs[i]? = some d → J.go i t.H ∧ ∀ x H', J.yld i t.H x H' → ∃ A', Sn t ⟨t.σ, t.e, A', H'⟩ ∧ Sa R fx ⟨t.σ, t.e, A', H'⟩ ∧ Rep R (hid A' H') d x
abbrev FI := DEnv → EO (List D)
/-- the reading of what a for walks -/
def rdI (R : RC) (fx : List (Nat × V)) (W : WX) (f : FI) : TI := fun σ H Q => ∃ e A, Sa R fx ⟨σ, e, A, H⟩ ∧ match f e with
  | .ok xs e1 => ∀ (J : It) (t : SS), t.e = e1 → St1 R fx ⟨σ, e, A, H⟩ t → ItOk R fx J xs t → Q J t.H
  | .ex x e1 => ∀ (cls : Value) (dd : Option Addr) (t : SS), t.e = e1 → St1 R fx ⟨σ, e, A, H⟩ t → ExR R t x cls dd → W cls dd t.σ t.H
  | .bot => False
def DI (X : Cx) (fx : List (Nat × V)) (W : WX) (tg iter : Expr) (f : FI) : Prop := PI X tg iter (rdI (rc X) fx W f)
theorem PI.imp {X : Cx} {tg e : Expr} {t t' : TI} (h : PI X tg e t) (i : ∀ σ H Q, t' σ H Q → t σ H Q) : PI X tg e t' := ⟨fun pins s σ H Q I q => h.run pins s σ H Q I (i σ H Q q)⟩
def sFor (f : FI) (g : FG) (F : FS) : FS := fun e => (f e).bindS fun xs e1 => forR g F xs e1
theorem St2.forw {R : RC} {s t u : SS} (a : Sa R fx s) (x : St2 R fx s t) (y : St2 R fx t u) : St2 R fx s u := x.trans a y
theorem ds_for {tg iter : Expr} {body : List Stmt} {fi : FI} {g : FG} {sl : List Nat} (hp : PassesOwn (model X.prog X.w) X.A X.env X.xe) (hc : X.calm = true) (hi : DI X fx W tg iter fi) (hg : DG X fx sl tg g) (hb : DSs X fx W body F)
    (hs : ∀ x, foldedSetIterable iter X.env x = pure x := by intro _; rfl) : DS X fx W (.For tg iter body [] pos) (sFor fi g F) := PS.imp (ps_for hp hc hi hg hb hs) fun D σ H q => by
  obtain ⟨e, A, a0, q⟩ := q
  refine ⟨e, A, a0, ?_⟩
  unfold sFor at q
  cases hf : fi e with
  | bot => rw [hf] at q; exact q
  | ex x e1 =>
    rw [hf] at q
    exact fun c d t et st r => q c d t et st.st2 r
  | ok xs e1 =>
    rw [hf] at q
    intro J t et st it
    obtain ⟨σ1, e1', A1, H1⟩ := t
    obtain rfl : σ1 = σ := st.eq
    obtain rfl : e1' = e1 := et
    have q1 : SPost (rc X) fx W D ⟨σ1, e1', A1, H1⟩ (forR g F xs e1') := SPost.later a0 st.st2 q
    refine ⟨fun i m σ' H' => m + i = xs.length ∧ ∃ e' A', St2 (rc X) fx ⟨σ1, e1', A1, H1⟩ ⟨σ', e', A', H'⟩ ∧ SPost (rc X) fx W D ⟨σ', e', A', H'⟩ (forR g F (xs.drop i) e'), ⟨xs.length, rfl, e1', A1, .refl st.ab, q1⟩, ?_⟩
    rintro i m σ' H' ⟨hm, e', A', x1, h1⟩
    obtain ⟨ist, igo⟩ := it.run ⟨σ', e', A', H'⟩ i x1
    by_cases hi : i = xs.length
    · refine .inl ⟨ist hi, ?_⟩
      rw [hi, List.drop_length] at h1
      exact h1 _ rfl (.refl x1.ab)
    · have hlt : i < xs.length := by omega
      have hd : xs.drop i = xs[i] :: xs.drop (i + 1) := List.drop_eq_getElem_cons hlt
      rw [hd] at h1
      obtain ⟨go, yl⟩ := igo xs[i] (List.getElem?_eq_getElem hlt)
      refine .inr ⟨go, fun σ2 H2 => ∃ e2 A2, St2 (rc X) fx ⟨σ1, e1', A1, H1⟩ ⟨σ2, e2, A2, H2⟩ ∧ SPost (rc X) fx W D ⟨σ2, e2, A2, H2⟩ (forR g F (xs.drop (i + 1)) e2), ?_, fun x H2 hy => ?_⟩
      · rintro σ2 H2 ⟨e2, A2, y1, y2⟩
        exact ⟨m - 1, by omega, by omega, e2, A2, y1, y2⟩
      · obtain ⟨A2, n2, a2, r2⟩ := yl x H2 hy
        have st2 : St2 (rc X) fx ⟨σ', e', A', H'⟩ ⟨σ', e', A2, H2⟩ := ⟨n2, a2⟩
        have h2 := SPost.later x1.ab st2 h1
        unfold forR at h2
        cases hgd : g xs[i] e' with
        | none => simp only [hgd] at h2; exact h2.elim
        | some e3 =>
          simp only [hgd] at h2
          refine ⟨e', A2, xs[i], e3, a2, r2, hgd, fun t3 et3 st3 _ _ => ?_⟩
          obtain ⟨σ3, e3', A3, H3⟩ := t3
          obtain rfl : e3' = e3 := et3
          refine ⟨_, A3, st3.ab, ?_⟩
          have base : St2 (rc X) fx ⟨σ1, e1', A1, H1⟩ ⟨σ3, e3', A3, H3⟩ := (x1.trans st.ab st2).trans st.ab st3
          have h3 := SPost.later a2 st3 h2
          cases hF : F e3' with
          | nx e4 =>
            simp only [hF] at h3
            intro t4 et4 st4
            obtain ⟨σ4, e4', A4, H4⟩ := t4
            obtain rfl : e4' = e4 := et4
            exact ⟨_, A4, base.trans st.ab st4, SPost.later st3.ab st4 h3⟩
          | ct e4 =>
            simp only [hF] at h3
            intro t4 et4 st4
            obtain ⟨σ4, e4', A4, H4⟩ := t4
            obtain rfl : e4' = e4 := et4
            exact ⟨_, A4, base.trans st.ab st4, SPost.later st3.ab st4 h3⟩
          | bk e4 => simp only [hF] at h3; exact h3
          | rt p e4 => simp only [hF] at h3; exact h3
          | ex x' e4 => simp only [hF] at h3; exact h3
          | bot => simp only [hF] at h3; exact h3
end
end DL

set_option Elab.async false
set_option linter.all false
set_option maxRecDepth 100000
namespace DL
open PySem PySem.Spec L2
section
variable {X : Cx} {fx : List (Nat × V)} {W : WX} {pos : Pos} {a b c : Expr} {f g h : F1} {F G : FS} {tg : Expr}

theorem EPost.bndI {α β : Type} {R : RC} {Rel : Rl R fx β α} {W : WX} {s : SS} {Q : It → Hp → Prop} {o : EO α} {k : α → DEnv → EO (List D)} (a : Sa R fx s)
    (h : match o.bind k with
      | .ok xs e1 => ∀ (J : It) (t : SS), t.e = e1 → St1 R fx s t → ItOk R fx J xs t → Q J t.H
      | .ex x e1 => ∀ (cls : Value) (dd : Option Addr) (t : SS), t.e = e1 → St1 R fx s t → ExR R t x cls dd → W cls dd t.σ t.H
      | .bot => False) :
    EPost Rel W s (fun v H1 => ∃ e1 A1 p, St1 R fx s ⟨s.σ, e1, A1, H1⟩ ∧ Rel.rel s ⟨s.σ, e1, A1, H1⟩ v p ∧ match k p e1 with
      | .ok xs e2 => ∀ (J : It) (t : SS), t.e = e2 → St1 R fx s t → ItOk R fx J xs t → Q J t.H
      | .ex x e2 => ∀ (cls : Value) (dd : Option Addr) (t : SS), t.e = e2 → St1 R fx s t → ExR R t x cls dd → W cls dd t.σ t.H
      | .bot => False) o := by
  cases o with
  | ok p e =>
    intro v t e1 x r
    obtain ⟨σ1, e1', A1, H1⟩ := t
    obtain rfl : σ1 = s.σ := x.eq
    obtain rfl : e1' = e := e1
    exact ⟨_, A1, p, x, r, h⟩
  | ex x e => exact h
  | bot => exact h
theorem PI.or {e : Expr} {t t' : TI} (h : PI X tg e t) (h' : PI X tg e t') : PI X tg e (fun σ H Q => t σ H Q ∨ t' σ H Q) := ⟨fun pins s σ H Q I q => q.elim (h.run pins s σ H Q I) (h'.run pins s σ H Q I)⟩
/-- the three kinds by the value's own kind -/
theorem PI.orV {e : Expr} {te : TE} {k1 k2 k3 : V → Hp → (It → Hp → Prop) → Prop} (h1 : PI X tg e fun σ H R => te σ H fun x H1 => k1 x H1 R) (h2 : PI X tg e fun σ H R => te σ H fun x H1 => k2 x H1 R) (h3 : PI X tg e fun σ H R => te σ H fun x H1 => k3 x H1 R) :
    PI X tg e (fun σ H R => te σ H (fun x H1 => k1 x H1 R) ∨ te σ H (fun x H1 => k2 x H1 R) ∨ te σ H (fun x H1 => k3 x H1 R)) := PI.or h1 (PI.or h2 h3)
theorem it_list {R : RC} {s : SS} {l : Addr} {ds : List D} {vs : List V} (a0 : Sa R fx s) (h1 : LsR R.K (hid s.A s.H) l vs) (h2 : RepL R (hid s.A s.H) ds vs) : ItOk R fx (Itl R.K l) ds s := by
  refine ⟨fun t i st => ?_⟩
  have q1 : SqL R.K t.H l vs := (LsR.le hid_le (LsR.le (st.nx.hid a0) h1)).sq
  have q2 := RepL.le (st.nx.hid a0) _ _ h2
  refine ⟨fun hi => ⟨vs, q1, by rw [RepL.length h2]; omega⟩, fun d hd => ?_⟩
  obtain ⟨v, hv, hr⟩ := RepL.get q2 hd
  refine ⟨⟨vs, v, q1, hv⟩, ?_⟩
  rintro x H' ⟨rfl, hx⟩
  have := hx vs q1
  rw [hv] at this
  cases this
  exact ⟨t.A, .refl, st.ab, hr⟩
theorem it_tup {R : RC} {s : SS} {l : Addr} {ds : List D} {vs : List V} (a0 : Sa R fx s) (h1 : SqT R.K (hid s.A s.H) l vs) (h2 : RepL R (hid s.A s.H) ds vs) : ItOk R fx (Itt R.K l) ds s := by
  refine ⟨fun t i st => ?_⟩
  have q1 : SqT R.K t.H l vs := SqT.le hid_le (SqT.le (st.nx.hid a0) h1)
  have q2 := RepL.le (st.nx.hid a0) _ _ h2
  refine ⟨fun hi => ⟨vs, q1, by rw [RepL.length h2]; omega⟩, fun d hd => ?_⟩
  obtain ⟨v, hv, hr⟩ := RepL.get q2 hd
  refine ⟨⟨vs, v, q1, hv⟩, ?_⟩
  rintro x H' ⟨rfl, hx⟩
  have := hx vs q1
  rw [hv] at this
  cases this
  exact ⟨t.A, .refl, st.ab, hr⟩
def rngL (lo : Int) (n : Nat) : List D := (List.range n).map fun (i : Nat) => .int (lo + (i : Int))
theorem it_rng {R : RC} {s : SS} {lo : Int} {n : Nat} : ItOk R fx (Itr lo n) (rngL lo n) s := by
  refine ⟨fun t i st => ⟨fun hi => ?_, fun d hd => ?_⟩⟩
  · rw [hi]
    show n ≤ (rngL lo n).length
    unfold rngL
    rw [List.length_map, List.length_range]
    exact Nat.le_refl _
  · unfold rngL at hd
    rw [List.getElem?_map] at hd
    have hi : i < n := by
      cases q : (List.range n)[i]? with
      | none => rw [q] at hd; cases hd
      | some j =>
        have := (List.getElem?_eq_some_iff.mp q).1
        rwa [List.length_range] at this
    rw [List.getElem?_range hi] at hd
    cases hd
    refine ⟨hi, ?_⟩
    rintro x H' ⟨rfl, rfl⟩
    exact ⟨t.A, .refl, st.ab, rfl⟩
def signs (z : Str) : List D := z.cps.toList.map fun c => .str (oneS c)
theorem it_str {R : RC} {s : SS} {z : Str} : ItOk R fx (Its z) (signs z) s := by
  refine ⟨fun t i st => ⟨fun hi => ?_, fun d hd => ?_⟩⟩
  · rw [hi]
    show z.cps.size ≤ (signs z).length
    unfold signs
    rw [List.length_map, Array.length_toList]
    exact Nat.le_refl _
  · unfold signs at hd
    rw [List.getElem?_map, Array.getElem?_toList] at hd
    cases q : z.cps[i]? with
    | none => rw [q] at hd; cases hd
    | some c =>
      rw [q] at hd
      cases hd
      refine ⟨(Array.getElem?_eq_some_iff.mp q).1, ?_⟩
      rintro x H' ⟨rfl, c', hc, rfl⟩
      rw [q] at hc
      cases hc
      exact ⟨t.A, .refl, st.ab, rfl⟩
/-- a pair is laid each turn -/
theorem pair_ok {R : RC} {t : SS} {T : Addr} {x y : V} {d e : D} (a : Sa R fx t) (hT : t.H T = none) (p : Rep R (hid t.A t.H) d x) (q : Rep R (hid t.A t.H) e y) :
    ∃ A', Sn t ⟨t.σ, t.e, A', upd t.H T (.tup [x, y])⟩ ∧ Sa R fx ⟨t.σ, t.e, A', upd t.H T (.tup [x, y])⟩ ∧ Rep R (hid A' (upd t.H T (.tup [x, y]))) (.tup [d, e]) (.ref T) := by
  have st := St1.lay (R := R) (fx := fx) (s := t) (p := T) (ho := .tup [x, y]) a hT
  exact ⟨t.A, st.nx, st.ab, Sr.tup (ds := [d, e]) a hT ⟨x, [y], rfl, p, y, [], rfl, q, rfl⟩⟩
def enumL (ds : List D) (i : Nat) : List D := match ds with
  | [] => []
  | d :: r => .tup [.int (i : Int), d] :: enumL r (i + 1)
theorem enumL_get : ∀ {ds : List D} {k i : Nat}, (enumL ds k)[i]? = (ds[i]?).map fun d => .tup [.int ((k + i : Nat) : Int), d]
  | [], k, i => by simp [enumL]
  | d :: r, k, 0 => by simp [enumL]
  | d :: r, k, i + 1 => by
    have e : k + 1 + i = k + (i + 1) := by omega
    simp only [enumL, List.getElem?_cons_succ]
    rw [enumL_get, e]
theorem enumL_len : ∀ {ds : List D} {k : Nat}, (enumL ds k).length = ds.length
  | [], _ => rfl
  | d :: r, k => by simp [enumL, enumL_len]
theorem it_enum {R : RC} {s : SS} {l : Addr} {ds : List D} {vs : List V} (a0 : Sa R fx s) (h1 : LsR R.K (hid s.A s.H) l vs) (h2 : RepL R (hid s.A s.H) ds vs) : ItOk R fx (Ite R.K l) (enumL ds 0) s := by
  refine ⟨fun t i st => ?_⟩
  have q1 : SqL R.K t.H l vs := (LsR.le hid_le (LsR.le (st.nx.hid a0) h1)).sq
  have q2 := RepL.le (st.nx.hid a0) _ _ h2
  refine ⟨fun hi => ⟨vs, q1, by rw [RepL.length h2, hi, enumL_len]; exact Nat.le_refl _⟩, fun d hd => ?_⟩
  rw [enumL_get] at hd
  cases hq : ds[i]? with
  | none => rw [hq] at hd; cases hd
  | some d' =>
    rw [hq] at hd
    cases hd
    obtain ⟨v, hv, hr⟩ := RepL.get q2 hq
    refine ⟨⟨vs, v, q1, hv⟩, ?_⟩
    rintro x H' ⟨T, y, rfl, hT, rfl, hx⟩
    have := hx vs q1
    rw [hv] at this
    cases this
    rw [Nat.zero_add]
    exact pair_ok st.ab hT rfl hr
def zipL : List D → List D → List D
  | x :: xs, y :: ys => .tup [x, y] :: zipL xs ys
  | _, _ => []
theorem zipL_get : ∀ {ds es : List D} {i : Nat} {d : D}, (zipL ds es)[i]? = some d → ∃ x y, ds[i]? = some x ∧ es[i]? = some y ∧ d = .tup [x, y]
  | [], _, i, d, h => by simp [zipL] at h
  | x :: xs, [], i, d, h => by simp [zipL] at h
  | x :: xs, y :: ys, 0, d, h => by
    simp [zipL] at h
    exact ⟨x, y, rfl, rfl, h.symm⟩
  | x :: xs, y :: ys, i + 1, d, h => by
    simp only [zipL, List.getElem?_cons_succ] at h
    obtain ⟨x', y', h1, h2, h3⟩ := zipL_get h
    exact ⟨x', y', by simpa using h1, by simpa using h2, h3⟩
theorem zipL_len : ∀ {ds es : List D}, ds.length ≤ (zipL ds es).length ∨ es.length ≤ (zipL ds es).length
  | [], _ => .inl (Nat.zero_le _)
  | x :: xs, [] => .inr (Nat.zero_le _)
  | x :: xs, y :: ys => by
    rcases zipL_len (ds := xs) (es := ys) with h | h
    · exact .inl (Nat.succ_le_succ h)
    · exact .inr (Nat.succ_le_succ h)
theorem it_zipL {R : RC} {s : SS} {l m : Addr} {ds es : List D} {vs ws : List V} (a0 : Sa R fx s) (h1 : LsR R.K (hid s.A s.H) l vs) (h2 : RepL R (hid s.A s.H) ds vs) (h3 : LsR R.K (hid s.A s.H) m ws) (h4 : RepL R (hid s.A s.H) es ws) : ItOk R fx (Itz R.K l m) (zipL ds es) s := by
  refine ⟨fun t i st => ?_⟩
  have q1 : SqL R.K t.H l vs := (LsR.le hid_le (LsR.le (st.nx.hid a0) h1)).sq
  have q2 := RepL.le (st.nx.hid a0) _ _ h2
  have q3 : SqL R.K t.H m ws := (LsR.le hid_le (LsR.le (st.nx.hid a0) h3)).sq
  have q4 := RepL.le (st.nx.hid a0) _ _ h4
  refine ⟨fun hi => ⟨vs, ws, q1, q3, by rw [RepL.length h2, RepL.length h4, hi]; exact zipL_len⟩, fun d hd => ?_⟩
  obtain ⟨d1, d2, e1, e2, rfl⟩ := zipL_get hd
  obtain ⟨v, hv, hr⟩ := RepL.get q2 e1
  obtain ⟨w, hw, hr'⟩ := RepL.get q4 e2
  refine ⟨⟨vs, ws, v, w, q1, q3, hv, hw⟩, ?_⟩
  rintro x H' ⟨T, y, z, rfl, hT, rfl, hx, hy⟩
  have t1 := hx vs q1
  have t2 := hy ws q3
  rw [hv] at t1
  rw [hw] at t2
  cases t1
  cases t2
  exact pair_ok st.ab hT hr hr'
theorem it_zipT {R : RC} {s : SS} {l m : Addr} {ds es : List D} {vs ws : List V} (a0 : Sa R fx s) (h1 : SqT R.K (hid s.A s.H) l vs) (h2 : RepL R (hid s.A s.H) ds vs) (h3 : SqT R.K (hid s.A s.H) m ws) (h4 : RepL R (hid s.A s.H) es ws) : ItOk R fx (RZ.ItzT R.K l m) (zipL ds es) s := by
  refine ⟨fun t i st => ?_⟩
  have q1 : SqT R.K t.H l vs := SqT.le hid_le (SqT.le (st.nx.hid a0) h1)
  have q2 := RepL.le (st.nx.hid a0) _ _ h2
  have q3 : SqT R.K t.H m ws := SqT.le hid_le (SqT.le (st.nx.hid a0) h3)
  have q4 := RepL.le (st.nx.hid a0) _ _ h4
  refine ⟨fun hi => ⟨vs, ws, q1, q3, by rw [RepL.length h2, RepL.length h4, hi]; exact zipL_len⟩, fun d hd => ?_⟩
  obtain ⟨d1, d2, e1, e2, rfl⟩ := zipL_get hd
  obtain ⟨v, hv, hr⟩ := RepL.get q2 e1
  obtain ⟨w, hw, hr'⟩ := RepL.get q4 e2
  refine ⟨⟨vs, ws, v, w, q1, q3, hv, hw⟩, ?_⟩
  rintro x H' ⟨T, y, z, rfl, hT, rfl, hx, hy⟩
  have t1 := hx vs q1
  have t2 := hy ws q3
  rw [hv] at t1
  rw [hw] at t2
  cases t1
  cases t2
  exact pair_ok st.ab hT hr hr'

/-! ### what a for walks -/
def fiSeq (f : F1) : FI := fun e => (f e).bind fun p e1 => match frz p e1 with
  | some (.lst ds, e2) => .ok ds e2
  | some (.tup ds, e2) => .ok ds e2
  | some (.str z, e2) => .ok (signs z) e2
  | _ => .bot
theorem di_seq (ha : DE X fx W a f) : DI X fx W tg a (fiSeq f) := by
  refine PI.imp (PI.or (pi_list ha) (PI.or (pi_tup ha) (pi_str ha))) fun σ H Q q => ?_
  obtain ⟨e, A, a0, q⟩ := q
  unfold fiSeq at q
  have q' := EPost.bndI (Rel := RE (rc X) fx) a0 q
  -- which kind: by the outcome
  cases ho : f e with
  | bot => rw [ho] at q'; exact q'.elim
  | ex x e1 => rw [ho] at q'; exact .inl ⟨e, A, a0, by rw [ho]; exact q'⟩
  | ok p e1 =>
    cases hz : frz p e1 with
    | none => rw [ho] at q; simp only [EO.bind, hz] at q
    | some z =>
      obtain ⟨d, e2⟩ := z
      cases d with
      | lst ds =>
        refine .inl ⟨e, A, a0, ?_⟩
        rw [ho] at q ⊢
        simp only [EO.bind, hz] at q
        intro v t et st r
        obtain ⟨t', et', eh, st', rd⟩ := frz_ok a0 st r.1 r.2 (by rw [et]; exact hz)
        obtain ⟨l, vs, rfl, h1, h2⟩ := rd
        refine ⟨l, rfl, ⟨vs, (LsR.le hid_le (by rw [← eh]; exact h1)).sq⟩, ?_⟩
        have := q (Itl X.K l) t' et' st' (it_list (R := rc X) st'.ab h1 h2)
        rw [eh] at this
        exact this
      | tup ds =>
        refine .inr (.inl ⟨e, A, a0, ?_⟩)
        rw [ho] at q ⊢
        simp only [EO.bind, hz] at q
        intro v t et st r
        obtain ⟨t', et', eh, st', rd⟩ := frz_ok a0 st r.1 r.2 (by rw [et]; exact hz)
        obtain ⟨l, vs, rfl, h1, h2⟩ := rd
        refine ⟨l, rfl, ⟨vs, SqT.le hid_le (by rw [← eh]; exact h1)⟩, ?_⟩
        have := q (Itt X.K l) t' et' st' (it_tup (R := rc X) st'.ab h1 h2)
        rw [eh] at this
        exact this
      | str z =>
        refine .inr (.inr ⟨e, A, a0, ?_⟩)
        rw [ho] at q ⊢
        simp only [EO.bind, hz] at q
        intro v t et st r
        obtain ⟨t', et', eh, st', rd⟩ := frz_ok a0 st r.1 r.2 (by rw [et]; exact hz)
        refine ⟨z, rd, ?_⟩
        have := q (Its z) t' et' st' it_str
        rw [eh] at this
        exact this
      | non => rw [ho] at q; simp only [EO.bind, hz] at q
      | bl b => rw [ho] at q; simp only [EO.bind, hz] at q
      | int i => rw [ho] at q; simp only [EO.bind, hz] at q
      | dct k x => rw [ho] at q; simp only [EO.bind, hz] at q
      | ins c n x => rw [ho] at q; simp only [EO.bind, hz] at q
      | exn c x => rw [ho] at q; simp only [EO.bind, hz] at q
      | adr x => rw [ho] at q; simp only [EO.bind, hz] at q
def fiOf (o : EO (List D)) (k : List D → Option (List D)) : EO (List D) := o.bind fun ds e1 => match k ds with
  | some xs => .ok xs e1
  | none => .bot
theorem fiOf_post {s : SS} {Q : It → Hp → Prop} {o : EO (List D)} {k : List D → Option (List D)} (a : Sa (rc X) fx s)
    (h : match fiOf o k with
      | .ok xs e1 => ∀ (J : It) (t : SS), t.e = e1 → St1 (rc X) fx s t → ItOk (rc X) fx J xs t → Q J t.H
      | .ex x e1 => ∀ (cls : Value) (dd : Option Addr) (t : SS), t.e = e1 → St1 (rc X) fx s t → ExR (rc X) t x cls dd → W cls dd t.σ t.H
      | .bot => False) :
    EPost (RD (rc X) fx) W s (fun vs H1 => ∃ e1 A1 ds xs, St1 (rc X) fx s ⟨s.σ, e1, A1, H1⟩ ∧ RepL (rc X) (hid A1 H1) ds vs ∧ k ds = some xs ∧ ∀ J : It, ItOk (rc X) fx J xs ⟨s.σ, e1, A1, H1⟩ → Q J H1) o :=
  (EPost.bndI (Rel := RD (rc X) fx) a h).mono fun vs H1 ⟨e1, A1, ds, x1, r1, h1⟩ => by
    cases hk : k ds with
    | none => simp only [hk] at h1
    | some xs =>
      simp only [hk] at h1
      exact ⟨e1, A1, ds, xs, x1, r1, hk, fun J j => h1 J _ rfl x1 j⟩
def rng1 : List D → Option (List D)
  | [.int j] => if j.natAbs < 2 ^ 62 then some (rngL 0 j.toNat) else none
  | _ => none
def rng2 : List D → Option (List D)
  | [.int i, .int j] => if i.natAbs < 2 ^ 62 ∧ j.natAbs < 2 ^ 62 then some (rngL i (j - i).toNat) else none
  | _ => none
def enum1 : List D → Option (List D)
  | [.lst xs] => some (enumL xs 0)
  | _ => none
def zip2 : List D → Option (List D)
  | [.lst xs, .lst ys] => some (zipL xs ys)
  | [.tup xs, .tup ys] => some (zipL xs ys)
  | _ => none
def fiRng1 (f : F1) : FI := fun e => fiOf (eItems [f] e) rng1
def fiRng2 (f g : F1) : FI := fun e => fiOf (eItems [f, g] e) rng2
def fiEnum (f : F1) : FI := fun e => fiOf (eItems [f] e) enum1
def fiZip (f g : F1) : FI := fun e => fiOf (eItems [f, g] e) zip2
theorem di_rng1 {p : Pos} (hg : Gl X "range") (hm : X.mg "range" = none) (ha : DD X fx W [a] (eItems [f])) (hs : starEach [a] X.env = [(false, eval a X.env)] := by rfl) : DI X fx W tg (.Call (.Name "range" p) [a] [] pos) (fiRng1 f) := by
  refine PI.imp (pi_range1 hg hm ha hs) fun σ H Q q => ?_
  obtain ⟨e, A, a0, q⟩ := q
  refine ⟨e, A, a0, (fiOf_post a0 q).mono fun vs H1 ⟨e1, A1, ds, xs, x1, r1, hk, h1⟩ => ?_⟩
  unfold rng1 at hk
  split at hk
  · split at hk <;> cases hk
    rename_i j hj
    obtain ⟨v, _, rfl, hv, h0⟩ := r1
    cases (show _ = _ from h0)
    exact ⟨j, by rw [show v = .int j from hv], by omega, by omega, h1 _ it_rng⟩
  · cases hk
theorem di_rng2 {p : Pos} (hg : Gl X "range") (hm : X.mg "range" = none) (ha : DD X fx W [a, b] (eItems [f, g])) (hs : starEach [a, b] X.env = [(false, eval a X.env), (false, eval b X.env)] := by rfl) (hs2 : starEach [b] X.env = [(false, eval b X.env)] := by rfl) : DI X fx W tg (.Call (.Name "range" p) [a, b] [] pos) (fiRng2 f g) := by
  refine PI.imp (pi_range2 hg hm ha hs hs2) fun σ H Q q => ?_
  obtain ⟨e, A, a0, q⟩ := q
  refine ⟨e, A, a0, (fiOf_post a0 q).mono fun vs H1 ⟨e1, A1, ds, xs, x1, r1, hk, h1⟩ => ?_⟩
  unfold rng2 at hk
  split at hk
  · split at hk <;> cases hk
    rename_i i j hj
    obtain ⟨v, _, rfl, hv, w, _, rfl, hw, h0⟩ := r1
    cases (show _ = _ from h0)
    exact ⟨i, j, by rw [show v = .int i from hv, show w = .int j from hw], (by omega : -(2 ^ 62) ≤ i ∧ i < 2 ^ 62 ∧ -(2 ^ 62) ≤ j ∧ j < 2 ^ 62), h1 _ it_rng⟩
  · cases hk
theorem di_enum {p tpos : Pos} {elts : List Expr} {kk : Nat} (hg : Gl X "enumerate") (hm : X.mg "enumerate" = none) (ha : DD X fx W [a] (eItems [f])) (hs : starEach [a] X.env = [(false, eval a X.env)] := by rfl) : DI X fx W (.Tuple elts kk tpos) (.Call (.Name "enumerate" p) [a] [] pos) (fiEnum f) := by
  refine PI.imp (pi_enum hg hm ha hs) fun σ H Q q => ?_
  obtain ⟨e, A, a0, q⟩ := q
  refine ⟨e, A, a0, (fiOf_post a0 q).mono fun vs H1 ⟨e1, A1, ds, xs, x1, r1, hk, h1⟩ => ?_⟩
  unfold enum1 at hk
  split at hk <;> cases hk
  obtain ⟨v, _, rfl, ⟨l, us, rfl, q1, q2⟩, h0⟩ := r1
  cases (show _ = _ from h0)
  exact ⟨l, us, rfl, (LsR.le hid_le q1).sq, h1 _ (it_enum (R := rc X) x1.ab q1 q2)⟩
theorem di_zip {p tpos : Pos} {elts : List Expr} {kk : Nat} (hg : Gl X "zip") (hm : X.mg "zip" = none) (ha : DD X fx W [a, b] (eItems [f, g])) (hs : starEach [a, b] X.env = (false, eval a X.env) :: starEach [b] X.env := by rfl) (hpl : (backTo pos (starEach [b] X.env)).any (·.1) = false := by rfl) : DI X fx W (.Tuple elts kk tpos) (.Call (.Name "zip" p) [a, b] [] pos) (fiZip f g) := by
  refine PI.imp (RZ.pi_zipA hg hm ha hs hpl) fun σ H Q q => ?_
  obtain ⟨e, A, a0, q⟩ := q
  refine ⟨e, A, a0, (fiOf_post a0 q).mono fun vs H1 ⟨e1, A1, ds, xs, x1, r1, hk, h1⟩ => ?_⟩
  unfold zip2 at hk
  split at hk
  · cases hk
    obtain ⟨v, _, rfl, ⟨l, us, rfl, q1, q2⟩, w, _, rfl, ⟨m, ws, rfl, q3, q4⟩, h0⟩ := r1
    cases (show _ = _ from h0)
    exact ⟨l, m, us, ws, rfl, .inl ⟨(LsR.le hid_le q1).sq, (LsR.le hid_le q3).sq, h1 _ (it_zipL (R := rc X) x1.ab q1 q2 q3 q4)⟩⟩
  · cases hk
    obtain ⟨v, _, rfl, ⟨l, us, rfl, q1, q2⟩, w, _, rfl, ⟨m, ws, rfl, q3, q4⟩, h0⟩ := r1
    cases (show _ = _ from h0)
    exact ⟨l, m, us, ws, rfl, .inr ⟨SqT.le hid_le q1, SqT.le hid_le q3, h1 _ (it_zipT (R := rc X) x1.ab q1 q2 q3 q4)⟩⟩
  · cases hk
end
end DL

set_option Elab.async false
set_option linter.all false
set_option maxRecDepth 100000
namespace DL
open PySem PySem.Spec L2

/-! ### comprehensions -/
def wipeE (e : DEnv) : List Nat → DEnv
  | [] => e
  | v :: vs => (wipeE e vs).set v .no
def restE (e0 e : DEnv) : List Nat → DEnv
  | [] => e
  | v :: vs => (restE e0 e vs).set v (e0.getD v .no)
def noOwn (e : DEnv) (vs : List Nat) : Bool := vs.all fun v => match e[v]? with
  | some (.own _) => false
  | _ => true
theorem wipeE_len {e : DEnv} : ∀ {vs : List Nat}, (wipeE e vs).length = e.length
  | [] => rfl
  | v :: vs => by unfold wipeE; rw [List.length_set, wipeE_len]
theorem restE_len {e0 e : DEnv} : ∀ {vs : List Nat}, (restE e0 e vs).length = e.length
  | [] => rfl
  | v :: vs => by unfold restE; rw [List.length_set, restE_len]
theorem wipeE_out {e : DEnv} {i : Nat} : ∀ {vs : List Nat}, i ∉ vs → (wipeE e vs)[i]? = e[i]?
  | [], _ => rfl
  | v :: vs, h => by
    unfold wipeE
    rw [List.getElem?_set_ne (fun z => h (by simp [z]))]
    exact wipeE_out fun z => h (List.mem_cons_of_mem _ z)
theorem wipeE_in {e : DEnv} {i : Nat} {c : Cell} : ∀ {vs : List Nat}, i ∈ vs → (wipeE e vs)[i]? = some c → c = .no
  | v :: vs, h, q => by
    unfold wipeE at q
    by_cases e1 : i = v
    · subst e1
      rcases set_get q with ⟨_, _, z⟩ | ⟨z, _⟩
      · exact z
      · exact (z rfl).elim
    · rw [List.getElem?_set_ne (Ne.symm e1)] at q
      rcases List.mem_cons.mp h with z | z
      · exact (e1 z).elim
      · exact wipeE_in z q
theorem wipe_out {σ : L2.St} {i : Nat} : ∀ {vs : List Nat}, i ∉ vs → (wipe σ vs)[i]? = σ[i]?
  | [], _ => rfl
  | v :: vs, h => by
    unfold wipe
    rw [List.getElem?_set_ne (fun z => h (by simp [z]))]
    exact wipe_out fun z => h (List.mem_cons_of_mem _ z)
theorem wipe_eq {σ σ' : L2.St} {vs : List Nat} (h : Out vs σ σ') (hl : σ'.length = σ.length) : wipe σ' vs = wipe σ vs := by
  have key : ∀ ws : List Nat, (∀ i, i ∉ vs → (wipe σ' ws)[i]? = (wipe σ ws)[i]?) := fun ws => by
    induction ws with
    | nil => exact h
    | cons v ws ih =>
      intro i hi
      unfold wipe
      by_cases e : i = v
      · subst e
        rw [List.getElem?_set, List.getElem?_set]
        simp only [wipe_length, hl, if_true]
      · rw [List.getElem?_set_ne (Ne.symm e), List.getElem?_set_ne (Ne.symm e)]
        exact ih i hi
  apply List.ext_getElem?
  intro i
  by_cases hi : i ∈ vs
  · have nn : ∀ {τ : L2.St} {ws : List Nat}, i ∈ ws → (wipe τ ws)[i]? = if i < τ.length then some none else none := fun {τ ws} hw => by
      induction ws with
      | nil => cases hw
      | cons v ws ih =>
        unfold wipe
        by_cases e : i = v
        · subst e
          rw [List.getElem?_set]
          simp only [wipe_length, if_true]
        · rw [List.getElem?_set_ne (Ne.symm e)]
          rcases List.mem_cons.mp hw with z | z
          · exact (e z).elim
          · exact ih z
    rw [nn hi, nn hi, hl]
  · exact key vs i hi
theorem restE_out {e0 e : DEnv} {i : Nat} : ∀ {vs : List Nat}, i ∉ vs → (restE e0 e vs)[i]? = e[i]?
  | [], _ => rfl
  | v :: vs, h => by
    unfold restE
    rw [List.getElem?_set_ne (fun z => h (by simp [z]))]
    exact restE_out fun z => h (List.mem_cons_of_mem _ z)
theorem restE_in {e0 e : DEnv} {i : Nat} {c : Cell} : ∀ {vs : List Nat}, i ∈ vs → (restE e0 e vs)[i]? = some c → c = e0.getD i .no
  | v :: vs, h, q => by
    unfold restE at q
    by_cases e1 : i = v
    · subst e1
      rcases set_get q with ⟨_, _, z⟩ | ⟨z, _⟩
      · exact z
      · exact (z rfl).elim
    · rw [List.getElem?_set_ne (Ne.symm e1)] at q
      rcases List.mem_cons.mp h with z | z
      · exact (e1 z).elim
      · exact restE_in z q
theorem restE_get {e0 e : DEnv} {i : Nat} : ∀ {vs : List Nat}, i ∈ vs → i < e.length → (restE e0 e vs)[i]? = some (e0.getD i .no)
  | v :: vs, h, hl => by
    unfold restE
    by_cases e1 : i = v
    · subst e1
      rw [List.getElem?_set_self (by rw [restE_len]; exact hl)]
    · rw [List.getElem?_set_ne (Ne.symm e1)]
      rcases List.mem_cons.mp h with z | z
      · exact (e1 z).elim
      · exact restE_get z hl
/-- the turns -/
def compR (g : FG) (t : FB) (f : F1) (vs : List Nat) : List D → List D → DEnv → EO (List D)
  | [], acc, e => .ok acc e
  | d :: ds, acc, e => match g d e with
    | none => .bot
    | some e1 => match t e1 with
      | .ok true e2 => match f e2 with
        | .ok p e3 => match frz p e3 with
          | some (d', e4) => compR g t f vs ds (acc ++ [d']) (wipeE e4 vs)
          | none => .bot
        | _ => .bot
      | .ok false e2 => compR g t f vs ds acc (wipeE e2 vs)
      | _ => .bot
def eLc (fi : FI) (g : FG) (t : FB) (f : F1) (vs : List Nat) : F1 := fun e => (fi e).bind fun xs e1 =>
  if noOwn e1 vs = true ∧ xs.length ≤ 1000000 then match compR g t f vs xs [] (wipeE e1 vs) with
    | .ok acc e2 => .ok (.fresh (.lst acc)) (restE e1 e2 vs)
    | _ => .bot
  else .bot
theorem compR_le {g : FG} {t : FB} {f : F1} {vs : List Nat} : ∀ {ds acc acc' : List D} {e e' : DEnv}, compR g t f vs ds acc e = .ok acc' e' → acc.length ≤ acc'.length ∧ acc'.length ≤ acc.length + ds.length
  | [], acc, acc', e, e', h => by cases h; exact ⟨Nat.le_refl _, Nat.le_refl _⟩
  | d :: ds, acc, acc', e, e', h => by
    unfold compR at h
    split at h
    · cases h
    · split at h
      · split at h
        · split at h
          · obtain ⟨h1, h2⟩ := compR_le h
            simp only [List.length_append, List.length_cons, List.length_nil] at h1 h2 ⊢
            omega
          · cases h
        · cases h
      · obtain ⟨h1, h2⟩ := compR_le h
        simp only [List.length_cons] at h2 ⊢
        omega
      · cases h
section
variable {R : RC} {fx : List (Nat × V)}
/-- the block's frame: the slots of vs forgotten -/
theorem wipe_st {s : SS} {vs : List Nat} (a : Sa R fx s) (hv : fx.all (fun p => vs.all fun v => v != p.1) = true) : St2 R fx s ⟨wipe s.σ vs, wipeE s.e vs, s.A, s.H⟩ := by
  have fxn : ∀ p ∈ fx, p.1 ∉ vs := fun p hp hm => by
    have h1 := List.all_eq_true.mp hv p hp
    have h2 := List.all_eq_true.mp h1 p.1 hm
    simp at h2
  have nv : ∀ {i : Nat} {c : Cell}, (wipeE s.e vs)[i]? = some c → c ≠ .no → i ∉ vs ∧ s.e[i]? = some c := fun {i c} h n => by
    have hi : i ∉ vs := fun z => n (wipeE_in z h)
    rw [wipeE_out hi] at h
    exact ⟨hi, h⟩
  have own' : ∀ b, Own (wipe s.σ vs) (wipeE s.e vs) b → Own s.σ s.e b := fun b ⟨j, d, h1, h2⟩ => by
    obtain ⟨hj, h3⟩ := nv h1 (fun z => nomatch z)
    rw [wipe_out hj] at h2
    exact ⟨j, d, h3, h2⟩
  refine ⟨⟨fun _ _ _ h => h, fun _ h => .inl h, fun b h => .inl (own' b h), fun _ h _ => h, fun _ o h => ⟨o, h⟩⟩, ?_⟩
  refine ⟨by show (wipe s.σ vs).length = (wipeE s.e vs).length; rw [wipe_length, wipeE_len]; exact a.len, fun p hp => ?_, fun i d h => ?_, fun i d h => ?_, fun i j d d' l h1 h2 h3 h4 => ?_, a.dom⟩
  · show (wipe s.σ vs)[p.1]? = _
    rw [wipe_out (fxn p hp)]
    exact a.fix p hp
  · obtain ⟨hi, h1⟩ := nv h (fun z => nomatch z)
    obtain ⟨v, q1, q2⟩ := a.val i d h1
    exact ⟨v, by show (wipe s.σ vs)[i]? = _; rw [wipe_out hi]; exact q1, q2⟩
  · obtain ⟨hi, h1⟩ := nv h (fun z => nomatch z)
    obtain ⟨l, ho, q1, q2⟩ := a.own i d h1
    exact ⟨l, ho, by show (wipe s.σ vs)[i]? = _; rw [wipe_out hi]; exact q1, q2⟩
  · obtain ⟨hi, k1⟩ := nv h1 (fun z => nomatch z)
    obtain ⟨hj, k2⟩ := nv h2 (fun z => nomatch z)
    have h3' : (wipe s.σ vs)[i]? = _ := h3
    have h4' : (wipe s.σ vs)[j]? = _ := h4
    rw [wipe_out hi] at h3'
    rw [wipe_out hj] at h4'
    exact a.inj i j d d' l k1 k2 h3' h4'
/-- back in the def's frame -/
theorem rest_st {b : SS} {vs : List Nat} {e' : DEnv} {A' : Addr → Prop} {H' : Hp} (a : Sa R fx b) (no : noOwn b.e vs = true) (x : St2 R fx b ⟨wipe b.σ vs, e', A', H'⟩) (kp : Kp (wipeE b.e vs) e') : St1 R fx b ⟨b.σ, restE b.e e' vs, A', H'⟩ := by
  have a' := x.ab
  have hlen : e'.length = b.e.length := by
    have h1 : (wipe b.σ vs).length = e'.length := a'.len
    rw [wipe_length] at h1
    rw [← h1]
    exact a.len
  have gt : ∀ {i : Nat} {c : Cell}, (restE b.e e' vs)[i]? = some c → (i ∈ vs ∧ b.e[i]? = some c) ∨ (i ∉ vs ∧ e'[i]? = some c) := fun {i c} h => by
    by_cases hi : i ∈ vs
    · have q := restE_in hi h
      have hl : i < b.e.length := by
        have := (List.getElem?_eq_some_iff.mp h).1
        rw [restE_len, hlen] at this
        exact this
      refine .inl ⟨hi, ?_⟩
      rw [q, List.getD_eq_getElem?_getD, List.getElem?_eq_getElem hl]
      rfl
    · rw [restE_out hi] at h
      exact .inr ⟨hi, h⟩
  have gto : ∀ {i : Nat} {d : D}, (restE b.e e' vs)[i]? = some (.own d) → i ∉ vs ∧ e'[i]? = some (.own d) := fun {i d} h => by
    rcases gt h with ⟨hi, h1⟩ | h1
    · have q := List.all_eq_true.mp no i hi
      rw [h1] at q
      cases q
    · exact h1
  have own' : ∀ c, Own b.σ (restE b.e e' vs) c → Own (wipe b.σ vs) e' c := fun c ⟨i, d, h1, h2⟩ => by
    obtain ⟨hi, h3⟩ := gto h1
    exact ⟨i, d, h3, by rw [wipe_out hi]; exact h2⟩
  refine ⟨rfl, ⟨x.nx.keep, x.nx.sub, fun c h => x.nx.own c (own' c h), x.nx.sup, x.nx.there⟩, fun i d h => ?_, ?_⟩
  · have hl : i < e'.length := by
      rw [hlen]
      rcases h with h | h <;> exact (List.getElem?_eq_some_iff.mp h).1
    by_cases hi : i ∈ vs
    · show ∃ d', (restE b.e e' vs)[i]? = _ ∨ (restE b.e e' vs)[i]? = _
      rw [restE_get hi hl]
      rcases h with h | h
      · refine ⟨d, .inl ?_⟩
        rw [List.getD_eq_getElem?_getD, h]
        rfl
      · refine ⟨d, .inr ?_⟩
        rw [List.getD_eq_getElem?_getD, h]
        rfl
    · obtain ⟨d', h'⟩ := kp i d (by rw [wipeE_out hi]; exact h)
      exact ⟨d', by show (restE b.e e' vs)[i]? = _ ∨ (restE b.e e' vs)[i]? = _; rw [restE_out hi]; exact h'⟩
  · refine ⟨by show b.σ.length = (restE b.e e' vs).length; rw [restE_len, hlen]; exact a.len, a.fix, fun i d h => ?_, fun i d h => ?_, fun i j d d' l h1 h2 h3 h4 => ?_, a'.dom⟩
    · rcases gt h with ⟨hi, h1⟩ | ⟨hi, h1⟩
      · obtain ⟨v, q1, q2⟩ := a.val i d h1
        exact ⟨v, q1, Rep.le (x.nx.hid a) _ _ q2⟩
      · obtain ⟨v, q1, q2⟩ := a'.val i d h1
        have q1' : (wipe b.σ vs)[i]? = _ := q1
        rw [wipe_out hi] at q1'
        exact ⟨v, q1', q2⟩
    · obtain ⟨hi, h1⟩ := gto h
      obtain ⟨l, ho, q1, q2⟩ := a'.own i d h1
      have q1' : (wipe b.σ vs)[i]? = _ := q1
      rw [wipe_out hi] at q1'
      exact ⟨l, ho, q1', q2⟩
    · obtain ⟨hi, k1⟩ := gto h1
      obtain ⟨hj, k2⟩ := gto h2
      have h3' : (wipe b.σ vs)[i]? = some (some (.ref l)) := by rw [wipe_out hi]; exact h3
      have h4' : (wipe b.σ vs)[j]? = some (some (.ref l)) := by rw [wipe_out hj]; exact h4
      exact a'.inj i j d d' l k1 k2 h3' h4'
/-- the pending list has grown -/
theorem grow {b s : SS} {Dl : Addr} {acc : List D} {vacc : List V} {d : D} {v : V} (ab : Sa R fx b) (x : St2 R fx b s) (fr : b.H Dl = none) (hA : s.A Dl) (hn : ¬ Own s.σ s.e Dl) (hl : s.H Dl = some (.lst vacc)) (r : RepL R (hid s.A s.H) acc vacc) (p : Rep R (hid s.A s.H) d v) :
    St2 R fx b ⟨s.σ, s.e, s.A, upd s.H Dl (.lst (vacc ++ [v]))⟩ ∧ RepL R (hid s.A (upd s.H Dl (.lst (vacc ++ [v])))) (acc ++ [d]) (vacc ++ [v]) := by
  have a := x.ab
  have hh : Le (hid s.A s.H) (hid s.A (upd s.H Dl (.lst (vacc ++ [v])))) := fun c o e => by
    obtain ⟨e1, e2⟩ := hid_some.mp e
    refine hid_some.mpr ⟨e1, ?_⟩
    rw [upd_ne (fun z => by subst z; exact e1 hA)]
    exact e2
  have ne : ∀ c, Own s.σ s.e c → c ≠ Dl := fun c h z => by subst z; exact hn h
  refine ⟨⟨⟨fun c o n e => ?_, x.nx.sub, x.nx.own, x.nx.sup, fun c o e => ?_⟩, ?_⟩, (r.app (.one p)) |> RepL.le hh _ _⟩
  · show upd s.H Dl _ c = _
    rw [upd_ne (fun z => by subst z; rw [fr] at e; cases e)]
    exact x.nx.keep c o n e
  · by_cases hc : c = Dl
    · subst hc
      exact ⟨_, upd_same⟩
    · obtain ⟨o', h'⟩ := x.nx.there c o e
      exact ⟨o', by show upd s.H Dl _ c = _; rw [upd_ne hc]; exact h'⟩
  · refine ⟨a.len, a.fix, fun i d h => ?_, fun i d h => ?_, a.inj, fun c h => ?_⟩
    · obtain ⟨w, q1, q2⟩ := a.val i d h
      exact ⟨w, q1, Rep.le hh _ _ q2⟩
    · obtain ⟨l, ho, q1, q2, q3, q4⟩ := a.own i d h
      refine ⟨l, ho, q1, q2, ?_, q4.le hh⟩
      show upd s.H Dl _ l = _
      rw [upd_ne (ne l ⟨i, d, h, q1⟩)]
      exact q3
    · by_cases hc : c = Dl
      · subst hc
        exact ⟨_, upd_same⟩
      · obtain ⟨o, e⟩ := a.dom c h
        exact ⟨o, by show upd s.H Dl _ c = _; rw [upd_ne hc]; exact e⟩
end
end DL

set_option Elab.async false
set_option linter.all false
set_option maxRecDepth 100000
namespace DL
open PySem PySem.Spec L2
section
variable {X : Cx} {fx : List (Nat × V)} {W : WX} {pos : Pos} {tg iter elt : Expr} {ifs : List Expr} {scope : Scope} {own : List (Str × Nat)}
/-- nothing is let out -/
abbrev WF : WX := fun _ _ _ _ => False
def DTs (X : Cx) (fx : List (Nat × V)) (W : WX) (es : List Expr) (f : FB) : Prop := PTs X es (rd (RB (rc X) fx) W f)
def tTrue : FB := fun e => .ok true e
theorem dts_nil : DTs X fx W [] tTrue := ⟨fun pins s σ H Q I h => by
  obtain ⟨e, A, a0, h⟩ := h
  exact pts_nil.run pins s σ H Q I (h true _ rfl (.refl a0) rfl)⟩
theorem dts_one {c : Expr} {t : FB} (h : DT X fx W c t) : DTs X fx W [c] t := pts_one h
/-- a list that is being made -/
structure Pend (R : RC) (s : SS) (Dl : Addr) (acc : List D) (vacc : List V) : Prop where
  hA : s.A Dl
  hn : ¬ Own s.σ s.e Dl
  hl : s.H Dl = some (.lst vacc)
  r : RepL R (hid s.A s.H) acc vacc
theorem Pend.later {R : RC} {fx : List (Nat × V)} {s t : SS} {Dl : Addr} {acc : List D} {vacc : List V} (p : Pend R s Dl acc vacc) (a : Sa R fx s) (x : Sn s t) : Pend R t Dl acc vacc := by
  refine ⟨x.sup _ p.hA p.hn, fun z => ?_, x.keep _ _ p.hn p.hl, RepL.le (x.hid a) _ _ p.r⟩
  rcases x.own _ z with q | q
  · exact p.hn q
  · rw [p.hl] at q
    cases q
theorem St2.len {R : RC} {s t : SS} (a : Sa R fx s) (x : Sa R fx t) (h : t.e.length = s.e.length) : t.σ.length = s.σ.length := by rw [a.len, x.len, h]
theorem lc_post {fi : FI} {g : FG} {t : FB} {f : F1} {vs : List Nat} {sl : List Nat} (hv : fx.all (fun p => vs.all fun v => v != p.1) = true) (hsl : sl.all (fun i => vs.contains i) = true)
    {σ : L2.St} {H : Hp} {Q : VK} (q : rd (RE (rc X) fx) W (eLc fi g t f vs) σ H Q) :
    tLc (rdI (rc X) fx W fi) (rdG (rc X) fx sl g) (rd (RB (rc X) fx) WF t) (rd (RE (rc X) fx) WF f) vs σ H Q := by
  obtain ⟨e, A, a0, q⟩ := q
  refine ⟨e, A, a0, ?_⟩
  unfold eLc at q
  cases hf : fi e with
  | bot => rw [hf] at q; exact q
  | ex x e1 => rw [hf] at q; exact q
  | ok xs e1 =>
    rw [hf] at q
    intro J t0 et st it
    obtain ⟨σ1, e1', A1, H1⟩ := t0
    obtain rfl : σ1 = σ := st.eq
    obtain rfl : e1' = e1 := et
    dsimp only [EO.bind] at q
    by_cases hg : noOwn e1' vs = true ∧ xs.length ≤ 1000000
    · rw [if_pos hg] at q
      cases hc : compR g t f vs xs [] (wipeE e1' vs) with
      | ex x e2 => rw [hc] at q; exact q.elim
      | bot => rw [hc] at q; exact q.elim
      | ok accF eF =>
        rw [hc] at q
        intro Dl hD
        -- the start
        have b0 : Sa (rc X) fx ⟨σ1, e1', A1, H1⟩ := st.ab
        have w0 := wipe_st b0 hv
        have l0 := St1.layO (s := ⟨wipe σ1 vs, wipeE e1' vs, A1, H1⟩) (p := Dl) (ho := .lst []) w0.ab hD
        have s0 : St2 (rc X) fx ⟨σ1, e1', A1, H1⟩ ⟨wipe σ1 vs, wipeE e1' vs, fun b => b = Dl ∨ A1 b, upd H1 Dl (.lst [])⟩ := w0.trans b0 l0.st2
        have p0 : ¬ Own (wipe σ1 vs) (wipeE e1' vs) Dl := fun z => Sa.ne w0.ab hD (w0.ab.sub Dl z)
        refine ⟨fun i m H' => m + i = xs.length ∧ ∃ e' A' acc vacc, St2 (rc X) fx ⟨σ1, e1', A1, H1⟩ ⟨wipe σ1 vs, e', A', H'⟩ ∧ Kp (wipeE e1' vs) e' ∧ A' Dl ∧ ¬ Own (wipe σ1 vs) e' Dl ∧ H' Dl = some (.lst vacc) ∧ RepL (rc X) (hid A' H') acc vacc ∧ acc.length ≤ i ∧
          compR g t f vs (xs.drop i) acc e' = .ok accF eF, ⟨xs.length, rfl, wipeE e1' vs, _, [], [], s0, .refl, .inl rfl, p0, upd_same, rfl, Nat.le_refl _, hc⟩, ?_⟩
        rintro i m H' ⟨hm, e', A', acc, vacc, x1, kp, hA, hn, hl, hr, hal, heq⟩
        obtain ⟨ist, igo⟩ := it.run ⟨wipe σ1 vs, e', A', H'⟩ i x1
        by_cases hi : i = xs.length
        · refine .inl ⟨ist hi, ?_⟩
          rw [hi, List.drop_length] at heq
          have hacc : acc = accF := by cases heq; rfl
          have hee : e' = eF := by cases heq; rfl
          subst hacc
          subst hee
          have y := rest_st b0 hg.1 x1 kp
          refine q (.ref Dl) ⟨σ1, restE e1' e' vs, A', H'⟩ rfl (st.trans a0 y) ⟨⟨Dl, .lst vacc, rfl, hA, fun z => ?_, hl, vacc, rfl, hr⟩, fun l e => by cases e; exact st.nx.free hD⟩
          obtain ⟨j, d, z1, z2⟩ := z
          have z1' : (restE e1' e' vs)[j]? = some (.own d) := z1
          by_cases hj : j ∈ vs
          · have q1 := restE_in hj z1'
            have q2 := List.all_eq_true.mp hg.1 j hj
            rw [List.getD_eq_getElem?_getD] at q1
            cases q3 : e1'[j]? with
            | none => rw [q3] at q1; cases q1
            | some c =>
              rw [q3] at q1
              cases q1
              rw [q3] at q2
              cases q2
          · rw [restE_out hj] at z1'
            exact hn ⟨j, d, z1', by rw [wipe_out hj]; exact z2⟩
        · have hlt : i < xs.length := by omega
          have hd : xs.drop i = xs[i] :: xs.drop (i + 1) := List.drop_eq_getElem_cons hlt
          rw [hd] at heq
          obtain ⟨go, yl⟩ := igo xs[i] (List.getElem?_eq_getElem hlt)
          refine .inr ⟨go, fun H2 => ∃ e2 A2 acc2 vacc2, St2 (rc X) fx ⟨σ1, e1', A1, H1⟩ ⟨wipe σ1 vs, e2, A2, H2⟩ ∧ Kp (wipeE e1' vs) e2 ∧ A2 Dl ∧ ¬ Own (wipe σ1 vs) e2 Dl ∧ H2 Dl = some (.lst vacc2) ∧ RepL (rc X) (hid A2 H2) acc2 vacc2 ∧ acc2.length ≤ i + 1 ∧
            compR g t f vs (xs.drop (i + 1)) acc2 e2 = .ok accF eF, ?_, fun x H2 hy => ?_⟩
          · rintro H2 ⟨e2, A2, acc2, vacc2, y⟩
            exact ⟨m - 1, by omega, by omega, e2, A2, acc2, vacc2, y⟩
          obtain ⟨A2, n2, a2, r2⟩ := yl x H2 hy
          have st2 : St2 (rc X) fx ⟨wipe σ1 vs, e', A', H'⟩ ⟨wipe σ1 vs, e', A2, H2⟩ := ⟨n2, a2⟩
          unfold compR at heq
          cases hgd : g xs[i] e' with
          | none => simp only [hgd] at heq; cases heq
          | some e3 =>
            simp only [hgd] at heq
            refine ⟨e', A2, xs[i], e3, a2, r2, hgd, fun t3 et3 st3 ou3 oe3 => ?_⟩
            obtain ⟨σ3, e3', A3, H3⟩ := t3
            obtain rfl : e3' = e3 := et3
            have h0 : (wipe σ1 vs).length = e'.length := x1.ab.len
            have h0' : σ1.length = e1'.length := b0.len
            have len3 : σ3.length = σ1.length := by
              have h1 : σ3.length = e3'.length := st3.ab.len
              have h3 : e3'.length = e'.length := oe3.1
              rw [wipe_length] at h0
              omega
            have hw : wipe σ3 vs = wipe σ1 vs := wipe_eq (fun j hj => by
              have hjs : j ∉ sl := fun z => hj (by
                have := List.all_eq_true.mp hsl j z
                simpa using this)
              rw [show σ3[j]? = (wipe σ1 vs)[j]? from ou3 j hjs, wipe_out hj]) len3
            have kp3 : ∀ j, j ∉ vs → e3'[j]? = e'[j]? := fun j hj => oe3.2 j fun z => hj (by
              have := List.all_eq_true.mp hsl j z
              simpa using this)
            refine ⟨hw, ?_⟩
            have s13 : St2 (rc X) fx ⟨wipe σ1 vs, e', A', H'⟩ ⟨σ3, e3', A3, H3⟩ := st2.trans x1.ab st3
            have P1 : Pend (rc X) ⟨wipe σ1 vs, e', A', H'⟩ Dl acc vacc := ⟨hA, hn, hl, hr⟩
            have P3 := P1.later x1.ab s13.nx
            have S3 := x1.trans b0 s13
            -- how a turn ends
            have fin : ∀ (s5 : SS) (acc2 : List D) (vacc2 : List V), s5.σ = σ3 → St2 (rc X) fx ⟨σ1, e1', A1, H1⟩ s5 → Kp e3' s5.e → Pend (rc X) s5 Dl acc2 vacc2 → acc2.length ≤ i + 1 → compR g t f vs (xs.drop (i + 1)) acc2 (wipeE s5.e vs) = .ok accF eF →
                ∃ e2 A2 acc2 vacc2, St2 (rc X) fx ⟨σ1, e1', A1, H1⟩ ⟨wipe σ1 vs, e2, A2, s5.H⟩ ∧ Kp (wipeE e1' vs) e2 ∧ A2 Dl ∧ ¬ Own (wipe σ1 vs) e2 Dl ∧ s5.H Dl = some (.lst vacc2) ∧ RepL (rc X) (hid A2 s5.H) acc2 vacc2 ∧ acc2.length ≤ i + 1 ∧ compR g t f vs (xs.drop (i + 1)) acc2 e2 = .ok accF eF := by
              intro s5 acc2 vacc2 eσ y ky p hle hcr
              obtain ⟨σ5, e5, A5, H5⟩ := s5
              obtain rfl : σ5 = σ3 := eσ
              have w5 := wipe_st y.ab hv
              rw [hw] at w5
              have p5 := p.later y.ab w5.nx
              refine ⟨wipeE e5 vs, A5, acc2, vacc2, y.trans b0 w5, fun j d hj => ?_, p5.hA, p5.hn, p5.hl, p5.r, hle, hcr⟩
              have hjv : j ∉ vs := fun z => by
                rcases hj with hj | hj <;> cases wipeE_in z hj
              obtain ⟨d2, hd2⟩ := kp j d hj
              rw [← kp3 j hjv] at hd2
              obtain ⟨d3, hd3⟩ := ky j d2 hd2
              exact ⟨d3, by rw [wipeE_out hjv]; exact hd3⟩
            refine ⟨e3', A3, st3.ab, ?_⟩
            cases ht : t e3' with
            | bot => simp only [ht] at heq; cases heq
            | ex x' e4 => simp only [ht] at heq; cases heq
            | ok k e4 =>
              intro v t4 et4 st4 rk
              obtain rfl : v = k := rk
              obtain ⟨σ4, e4', A4, H4⟩ := t4
              obtain rfl : e4' = e4 := et4
              obtain rfl : σ4 = σ3 := st4.eq
              have P4 := P3.later st3.ab st4.nx
              have S4 := S3.trans b0 st4.st2
              cases v with
              | false =>
                simp only [ht] at heq
                exact iteF (fin ⟨σ4, e4', A4, H4⟩ acc vacc rfl S4 st4.kp P4 (by omega) heq)
              | true =>
                simp only [ht] at heq
                refine iteT ⟨e4', A4, st4.ab, ?_⟩
                cases hfe : f e4' with
                | bot => simp only [hfe] at heq; cases heq
                | ex x' e5 => simp only [hfe] at heq; cases heq
                | ok p e5 =>
                  simp only [hfe] at heq
                  intro y t5 et5 st5 rp
                  cases hz : frz p e5 with
                  | none => simp only [hz] at heq; cases heq
                  | some z =>
                    obtain ⟨d5, e6⟩ := z
                    simp only [hz] at heq
                    obtain ⟨⟨σ6, e6', A6, H6⟩, rfl, eh6, st6, rd6⟩ := frz_ok st4.ab st5 rp.1 rp.2 (by rw [et5]; exact hz)
                    obtain rfl : σ6 = σ4 := st6.eq
                    have P6 := P4.later st4.ab st6.nx
                    have S6 := S4.trans b0 st6.st2
                    have gr := grow (d := d5) (v := y) b0 S6 hD P6.hA P6.hn P6.hl P6.r rd6
                    have hla : vacc.length ≤ i := by rw [RepL.length P6.r]; exact hal
                    rw [← eh6]
                    refine ⟨vacc, P6.hl, Nat.lt_of_le_of_lt hla (Nat.lt_of_lt_of_le hlt (szle hg.2)), ?_⟩
                    refine fin ⟨σ6, e6', A6, upd H6 Dl (.lst (vacc ++ [y]))⟩ (acc ++ [d5]) (vacc ++ [y]) rfl gr.1 (st4.kp.trans st6.kp) ⟨P6.hA, P6.hn, upd_same, gr.2⟩ ?_ heq
                    rw [List.length_append, List.length_singleton]
                    omega
    · rw [if_neg hg] at q
      exact q.elim
/-- a comprehension as a value -/
theorem de_lc {fi : FI} {g : FG} {t : FB} {f : F1} {sl : List Nat} (hc : X.calm = true) (hN : X.N.Nodup) (ok : BlkOk X.N X.env.scope scope own)
    (hi : DI X fx W tg iter fi)
    (hg : ∀ (s : Shared) (H : Hp) (C : Addr) (cl : List (Str × Addr)) (fp : List Addr), DG (X.blk s H scope (compEnvC scope cl C X.env) fp) fx sl tg g)
    (ht : ∀ (s : Shared) (H : Hp) (C : Addr) (cl : List (Str × Addr)) (fp : List Addr), DTs (X.blk s H scope (compEnvC scope cl C X.env) fp) fx WF ifs t)
    (he : ∀ (s : Shared) (H : Hp) (C : Addr) (cl : List (Str × Addr)) (fp : List Addr), DE (X.blk s H scope (compEnvC scope cl C X.env) fp) fx WF elt f)
    (hv : fx.all (fun p => (own.map (·.2)).all fun v => v != p.1) = true := by rfl) (hsl : sl.all (fun i => (own.map (·.2)).contains i) = true := by rfl)
    (hs : ∀ x, foldedSetIterable iter X.env x = pure x := by intro _; rfl) : DE X fx W (.ListComp elt [⟨tg, iter, ifs, 0⟩] scope pos) (eLc fi g t f (own.map (·.2))) :=
  PE.imp (pe_lc (g := rdG (rc X) fx sl g) (tt := rd (RB (rc X) fx) WF t) (te := rd (RE (rc X) fx) WF f) hc hN hi ok hg ht he hs) fun σ H Q q => lc_post hv hsl q
theorem set_post {i : Nat} {f : F1} {D : Ends} {σ : L2.St} {H : Hp} (hfx : fx.all (fun p => p.1 != i) = true) (q : rdS (rc X) fx W (sSet i f) D σ H) : rd (RE (rc X) fx) W f σ H (fun x H1 => gName i x σ H1 D.nx) := by
  obtain ⟨e, A, a0, q⟩ := q
  refine ⟨e, A, a0, (SPost.bnd a0 q).mono fun v H1 ⟨e1, A1, p, x1, r1, _, h1⟩ => ?_⟩
  cases hp : putC i p e1 with
  | none => simp only [hp] at h1; exact h1.elim
  | some e2 =>
    simp only [hp] at h1
    obtain ⟨A', st⟩ := putC_ok (s := ⟨σ, e1, A1, H1⟩) a0 x1 r1.1 r1.2 hfx hp
    exact h1 _ rfl st
/-- name = [..] -/
theorem ds_setLc {i : Nat} {y : Str} {py spos : Pos} {fi : FI} {g : FG} {t : FB} {f : F1} {sl : List Nat} (hc : X.calm = true) (hN : X.N.Nodup) (hy : X.N[i]? = some y) (hyl : X.env.scope.names.lookup y = some .local)
    (hsw : swapsWith (.ListComp elt [⟨tg, iter, ifs, 0⟩] scope pos) (some (.Name y py)) spos.line X.env = pure true) (ok : BlkOk X.N X.env.scope scope own)
    (hi : DI X fx W tg iter fi)
    (hg : ∀ (s : Shared) (H : Hp) (C : Addr) (cl : List (Str × Addr)) (fp : List Addr), DG (X.blk s H scope (compEnvC scope cl C X.env) fp) fx sl tg g)
    (ht : ∀ (s : Shared) (H : Hp) (C : Addr) (cl : List (Str × Addr)) (fp : List Addr), DTs (X.blk s H scope (compEnvC scope cl C X.env) fp) fx WF ifs t)
    (he : ∀ (s : Shared) (H : Hp) (C : Addr) (cl : List (Str × Addr)) (fp : List Addr), DE (X.blk s H scope (compEnvC scope cl C X.env) fp) fx WF elt f)
    (hfx : fx.all (fun p => p.1 != i) = true := by rfl) (hv : fx.all (fun p => (own.map (·.2)).all fun v => v != p.1) = true := by rfl) (hsl : sl.all (fun i => (own.map (·.2)).contains i) = true := by rfl)
    (hs : ∀ x, foldedSetIterable iter X.env x = pure x := by intro _; rfl) : DS X fx W (.Assign [.Name y py] (.ListComp elt [⟨tg, iter, ifs, 0⟩] scope pos) spos) (sSet i (eLc fi g t f (own.map (·.2)))) :=
  PS.imp (ps_setLc (g := rdG (rc X) fx sl g) (tt := rd (RB (rc X) fx) WF t) (te := rd (RE (rc X) fx) WF f) hc hN hy hyl hsw hi ok hg ht he hs) fun D σ H q => lc_post hv hsl (set_post hfx q)
end
end DL

set_option Elab.async false
set_option linter.all false
set_option maxRecDepth 100000
namespace DL
open PySem PySem.Spec L2

/-! ### while -/
def whileN : Nat → FB → FS → FS
  | 0, _, _, _ => .bot
  | n + 1, t, F, e => match t e with
    | .ok true e1 => match F e1 with
      | .nx e2 => whileN n t F e2
      | .ct e2 => whileN n t F e2
      | .bk e2 => .nx e2
      | .rt p e2 => .rt p e2
      | .ex x e2 => .ex x e2
      | .bot => .bot
    | .ok false e1 => .nx e1
    | .ex x e1 => .ex x e1
    | .bot => .bot
open Classical in
noncomputable def sWhile (t : FB) (F : FS) : FS := fun e => if h : ∃ n, whileN n t F e ≠ .bot then whileN (Classical.choose h) t F e else .bot
theorem whileN_up {t : FB} {F : FS} : ∀ {n : Nat} {e : DEnv}, whileN n t F e ≠ .bot → whileN (n + 1) t F e = whileN n t F e
  | 0, e, h => (h rfl).elim
  | n + 1, e, h => by
    unfold whileN at h
    rw [whileN, whileN]
    cases ht : t e with
    | bot => rfl
    | ex x e1 => rfl
    | ok k e1 =>
      cases k with
      | false => rfl
      | true =>
        simp only [ht] at h
        dsimp only
        cases hF : F e1 with
        | nx e2 => simp only [hF] at h; exact whileN_up h
        | ct e2 => simp only [hF] at h; exact whileN_up h
        | bk e2 => rfl
        | rt p e2 => rfl
        | ex x e2 => rfl
        | bot => rfl
theorem whileN_le {t : FB} {F : FS} {e : DEnv} {n m : Nat} (h : whileN n t F e ≠ .bot) (l : n ≤ m) : whileN m t F e = whileN n t F e := by
  induction l with
  | refl => rfl
  | step _ ih => rw [whileN_up (by rw [ih]; exact h), ih]
theorem sWhile_eq {t : FB} {F : FS} {e : DEnv} {n : Nat} {o : SO} (h : whileN n t F e = o) (ho : o ≠ .bot) : sWhile t F e = o := by
  unfold sWhile
  have hx : ∃ n, whileN n t F e ≠ .bot := ⟨n, by rw [h]; exact ho⟩
  rw [dif_pos hx]
  have hc := Classical.choose_spec hx
  rcases Nat.le_total n (Classical.choose hx) with l | l
  · rw [whileN_le (by rw [h]; exact ho) l, h]
  · rw [← whileN_le hc l, h]
theorem sWhile_n {t : FB} {F : FS} {e : DEnv} (h : sWhile t F e ≠ .bot) : ∃ n, whileN n t F e = sWhile t F e := by
  unfold sWhile at h ⊢
  by_cases hx : ∃ n, whileN n t F e ≠ .bot
  · rw [dif_pos hx]
    exact ⟨_, rfl⟩
  · rw [dif_neg hx] at h
    exact (h rfl).elim
theorem SPost.nbot {R : RC} {fx : List (Nat × V)} {W : WX} {D : Ends} {s : SS} {o : SO} (h : SPost R fx W D s o) : o ≠ .bot := fun e => by rw [e] at h; exact h
section
variable {X : Cx} {fx : List (Nat × V)} {W : WX} {pos : Pos} {F : FS}
theorem ds_while {c : Expr} {body : List Stmt} {t : FB} (hp : PassesOwn (model X.prog X.w) X.A X.env X.xe) (hc : DT X fx W c t) (hb : DSs X fx W body F) : DS X fx W (.While c body [] pos) (sWhile t F) := PS.imp (ps_while hp hc hb) fun D σ H q => by
  obtain ⟨e, A, a0, q⟩ := q
  obtain ⟨n, hn⟩ := sWhile_n q.nbot
  rw [← hn] at q
  refine ⟨fun m σ' H' => ∃ e' A', Sa (rc X) fx ⟨σ', e', A', H'⟩ ∧ SPost (rc X) fx W D ⟨σ', e', A', H'⟩ (whileN m t F e'), ⟨n, e, A, a0, q⟩, ?_⟩
  rintro m σ' H' ⟨e', A', a1, h1⟩
  cases m with
  | zero => exact h1.elim
  | succ m =>
    refine ⟨e', A', a1, ?_⟩
    unfold whileN at h1
    cases ht : t e' with
    | bot => simp only [ht] at h1; exact h1
    | ex x e1 => simp only [ht] at h1; exact fun c d u eu su r => h1 c d u eu su.st2 r
    | ok k e1 =>
      intro v u eu su rk
      obtain rfl : v = k := rk
      obtain ⟨σ2, e2, A2, H2⟩ := u
      obtain rfl : e2 = e1 := eu
      obtain rfl : σ2 = σ' := su.eq
      cases v with
      | false =>
        simp only [ht] at h1
        exact iteF (h1 _ rfl su.st2)
      | true =>
        simp only [ht] at h1
        refine iteT ⟨fun σ3 H3 => ∃ e3 A3, Sa (rc X) fx ⟨σ3, e3, A3, H3⟩ ∧ SPost (rc X) fx W D ⟨σ3, e3, A3, H3⟩ (whileN m t F e3), fun σ3 H3 z => ⟨m, Nat.lt_succ_self m, z⟩, e2, A2, su.ab, ?_⟩
        have h2 := SPost.later a1 su.st2 h1
        cases hF : F e2 with
        | nx e4 =>
          simp only [hF] at h2
          intro t4 et4 st4
          obtain ⟨σ4, e4', A4, H4⟩ := t4
          obtain rfl : e4' = e4 := et4
          exact ⟨_, A4, st4.ab, SPost.later su.ab st4 h2⟩
        | ct e4 =>
          simp only [hF] at h2
          intro t4 et4 st4
          obtain ⟨σ4, e4', A4, H4⟩ := t4
          obtain rfl : e4' = e4 := et4
          exact ⟨_, A4, st4.ab, SPost.later su.ab st4 h2⟩
        | bk e4 => simp only [hF] at h2; exact h2
        | rt p e4 => simp only [hF] at h2; exact h2
        | ex x' e4 => simp only [hF] at h2; exact h2
        | bot => simp only [hF] at h2; exact h2
end

/-! ### a def by data -/
/-- what a call gives: a value (a list that nobody else knows), what the argument that may be changed holds then -/
inductive FOut where
  | ret (d : D) (o : Option D)
  | own (d : D) (o : Option D)
  | ex (x : Exn) (o : Option D)
  | bot
abbrev Fn := List D → FOut
def cellsOf (m : Option Nat) : Nat → List D → DEnv
  | _, [] => []
  | i, d :: ds => (if m = some i then .own d else .val d) :: cellsOf m (i + 1) ds
def mkEnv (m : Option Nat) (n : Nat) (ds : List D) : DEnv := cellsOf m 0 ds ++ List.replicate (n - ds.length) .no
def outOf (m : Option Nat) (e : DEnv) : Option (Option D) := match m with
  | none => some none
  | some j => match e[j]? with
    | some (.own d) => some (some d)
    | _ => none
def finP (m : Option Nat) (p : PV) (e : DEnv) : FOut := match outOf m e with
  | none => .bot
  | some o => match p with
    | .dat d => .ret d o
    | .fresh d => .own d o
    | .pk i => if m = some i then .bot else match e[i]? with
      | some (.own d) => .own d o
      | some (.val d) => .ret d o
      | _ => .bot
def fin (m : Option Nat) (o : SO) : FOut := match o with
  | .rt p e => finP m p e
  | .nx e => finP m (.dat .non) e
  | .ex x e => match outOf m e with
    | some o => .ex x o
    | none => .bot
  | _ => .bot
def fnD (m : Option Nat) (n : Nat) (body : FS) : Fn := fun ds => fin m (body (mkEnv m n ds))
structure ArgsOk (R : RC) (m : Option Nat) (A : Addr → Prop) (H : Hp) (vs : List V) (ds : List D) : Prop where
  val : ∀ (i : Nat) (d : D), ds[i]? = some d → m ≠ some i → ∃ v, vs[i]? = some v ∧ Rep R (hid A H) d v
  own : ∀ (j : Nat) (d : D), m = some j → ds[j]? = some d → ∃ (l : Addr) (ho : HO), vs[j]? = some (.ref l) ∧ A l ∧ H l = some ho ∧ OwnR R (hid A H) d ho
  dom : ∀ b, A b → ∃ o, H b = some o
  lt : ∀ j, m = some j → j < ds.length
def MAddr (m : Option Nat) (vs : List V) (b : Addr) : Prop := ∃ j, m = some j ∧ vs[j]? = some (.ref b)
structure NxF (M A : Addr → Prop) (H : Hp) (A' : Addr → Prop) (H' : Hp) : Prop where
  keep : ∀ b o, ¬ M b → H b = some o → H' b = some o
  sub : ∀ b, A' b → A b ∨ H b = none
  sup : ∀ b, A b → A' b
  there : ∀ b o, H b = some o → ∃ o', H' b = some o'
  dom : ∀ b, A' b → ∃ o, H' b = some o
def OutOk (R : RC) (m : Option Nat) (vs : List V) (A' : Addr → Prop) (H' : Hp) : Option D → Prop
  | none => m = none
  | some d => ∃ (j : Nat) (l : Addr) (ho : HO), m = some j ∧ vs[j]? = some (.ref l) ∧ H' l = some ho ∧ OwnR R (hid A' H') d ho
def FPost (R : RC) (m : Option Nat) (A : Addr → Prop) (H : Hp) (vs : List V) (Q : VK) (E : XK) : FOut → Prop
  | .ret d o => ∀ (v : V) (A' : Addr → Prop) (H' : Hp), NxF (MAddr m vs) A H A' H' → OutOk R m vs A' H' o → Rep R (hid A' H') d v → Q v H'
  | .own d o => ∀ (l : Addr) (ho : HO) (A' : Addr → Prop) (H' : Hp), NxF (MAddr m vs) A H A' H' → OutOk R m vs A' H' o → A' l → H l = none → H' l = some ho → OwnR R (hid A' H') d ho → Q (.ref l) H'
  | .ex x o => ∀ (cls : Value) (dd : Option Addr) (A' : Addr → Prop) (H' : Hp), NxF (MAddr m vs) A H A' H' → OutOk R m vs A' H' o → ExR R ⟨[], [], A', H'⟩ x cls dd → E cls dd H'
  | .bot => False
/-- the promise of a def: it gives what the function F says -/
def spD (R : RC) (m : Option Nat) (np : Nat) (F : Fn) : Sp := fun vs H Q E => ∃ ds A, vs.length = np ∧ ds.length = np ∧ ArgsOk R m A H vs ds ∧ FPost R m A H vs Q E (F ds)
theorem spD_len {R : RC} {m : Option Nat} {np : Nat} {F : Fn} : ∀ vs H Q E, spD R m np F vs H Q E → vs.length = np := fun _ _ _ _ ⟨_, _, h, _⟩ => h
theorem cellsOf_get {m : Option Nat} : ∀ {ds : List D} {k i : Nat}, (cellsOf m k ds)[i]? = (ds[i]?).map fun d => if m = some (k + i) then .own d else .val d
  | [], k, i => by simp [cellsOf]
  | d :: ds, k, 0 => by simp [cellsOf]
  | d :: ds, k, i + 1 => by
    have e : k + 1 + i = k + (i + 1) := by omega
    simp only [cellsOf, List.getElem?_cons_succ]
    rw [cellsOf_get, e]
theorem cellsOf_len {m : Option Nat} : ∀ {ds : List D} {k : Nat}, (cellsOf m k ds).length = ds.length
  | [], _ => rfl
  | d :: ds, k => by simp [cellsOf, cellsOf_len]
theorem mkEnv_get {m : Option Nat} {n i : Nat} {ds : List D} {c : Cell} (h : (mkEnv m n ds)[i]? = some c) : (∃ d, ds[i]? = some d ∧ c = if m = some i then .own d else .val d) ∨ c = .no := by
  unfold mkEnv at h
  by_cases hi : i < (cellsOf m 0 ds).length
  · rw [List.getElem?_append_left hi, cellsOf_get] at h
    cases hd : ds[i]? with
    | none => rw [hd] at h; cases h
    | some d =>
      rw [hd] at h
      cases h
      exact .inl ⟨d, rfl, by rw [Nat.zero_add]⟩
  · rw [List.getElem?_append_right (by omega), List.getElem?_replicate] at h
    split at h <;> cases h
    exact .inr rfl
def fxOf (m : Option Nat) (vs : List V) : List (Nat × V) := match m with
  | none => []
  | some j => match vs[j]? with
    | some v => [(j, v)]
    | none => []
theorem start_get {N : List Str} {vs : List V} {i : Nat} {v : V} (h : vs[i]? = some v) : (L2.start N vs)[i]? = some (some v) := by
  unfold L2.start
  have hi := (List.getElem?_eq_some_iff.mp h).1
  rw [List.getElem?_append_left (by simpa using hi), List.getElem?_map, h]
  rfl
theorem start_len {N : List Str} {vs : List V} (h : vs.length ≤ N.length) : (L2.start N vs).length = N.length := by
  unfold L2.start
  rw [List.length_append, List.length_map, List.length_replicate]
  omega
theorem call_start {R : RC} {m : Option Nat} {N : List Str} {vs : List V} {ds : List D} {A : Addr → Prop} {H : Hp} (hl : vs.length = ds.length) (hN : ds.length ≤ N.length) (a : ArgsOk R m A H vs ds) :
    Sa R (fxOf m vs) ⟨L2.start N vs, mkEnv m N.length ds, A, H⟩ ∧ ∀ b, Own (L2.start N vs) (mkEnv m N.length ds) b → MAddr m vs b := by
  have ow : ∀ {i : Nat} {d : D}, (mkEnv m N.length ds)[i]? = some (.own d) → m = some i ∧ ds[i]? = some d := fun {i d} h => by
    rcases mkEnv_get h with ⟨d', h1, h2⟩ | h1
    · split at h2
      · rename_i hm
        cases h2
        exact ⟨hm, h1⟩
      · cases h2
    · cases h1
  refine ⟨⟨?_, fun p hp => ?_, fun i d h => ?_, fun i d h => ?_, fun i j d d' l h1 h2 _ _ => ?_, a.dom⟩, fun b ⟨i, d, h1, h2⟩ => ?_⟩
  · show (L2.start N vs).length = (mkEnv m N.length ds).length
    rw [start_len (by omega)]
    unfold mkEnv
    rw [List.length_append, cellsOf_len, List.length_replicate]
    omega
  · unfold fxOf at hp
    cases m with
    | none => cases hp
    | some j =>
      cases hv : vs[j]? with
      | none => simp only [hv] at hp; cases hp
      | some v =>
        simp only [hv] at hp
        have : p = (j, v) := by simpa using hp
        subst this
        exact start_get hv
  · rcases mkEnv_get h with ⟨d', h1, h2⟩ | h1
    · split at h2
      · cases h2
      · rename_i hm
        cases h2
        obtain ⟨v, q1, q2⟩ := a.val i d h1 hm
        exact ⟨v, start_get q1, q2⟩
    · cases h1
  · obtain ⟨hm, h1⟩ := ow h
    obtain ⟨l, ho, q1, q2, q3, q4⟩ := a.own i d hm h1
    exact ⟨l, ho, start_get q1, q2, q3, q4⟩
  · have e1 := (ow h1).1
    have e2 := (ow h2).1
    rw [e1] at e2
    exact Option.some.inj e2
  · obtain ⟨hm, q⟩ := ow h1
    obtain ⟨l, ho, q1, q2, q3, q4⟩ := a.own i d hm q
    have := start_get (N := N) q1
    rw [h2] at this
    cases this
    exact ⟨i, hm, q1⟩
theorem call_end {R : RC} {m : Option Nat} {N : List Str} {vs : List V} {ds : List D} {A : Addr → Prop} {H : Hp} {Q : VK} {E : XK} (hl : vs.length = ds.length) (hN : ds.length ≤ N.length) (a : ArgsOk R m A H vs ds) {o : SO} (h : FPost R m A H vs Q E (fin m o)) :
    SPost R (fxOf m vs) (fun cls d _ H' => E cls d H') { nx := fun _ H' => Q .non H', rt := Q } ⟨L2.start N vs, mkEnv m N.length ds, A, H⟩ o := by
  obtain ⟨a0, hM⟩ := call_start hl hN a
  -- the slot that may be changed, at the end
  have out : ∀ {t : SS} {o : Option D}, St2 R (fxOf m vs) ⟨L2.start N vs, mkEnv m N.length ds, A, H⟩ t → outOf m t.e = some o → OutOk R m vs t.A t.H o ∧ NxF (MAddr m vs) A H t.A t.H ∧ ∀ (i : Nat) (d : D) (l : Addr), t.e[i]? = some (.own d) → t.σ[i]? = some (some (.ref l)) → m ≠ some i → H l = none := by
    intro t o x ho
    have fixj : ∀ j v, m = some j → vs[j]? = some v → t.σ[j]? = some (some v) := fun j v hj hv => x.ab.fix (j, v) (by unfold fxOf; rw [hj]; simp only [hv]; exact List.mem_singleton.mpr rfl)
    have keep : ∀ b o, ¬ MAddr m vs b → H b = some o → t.H b = some o := fun b o n e => x.nx.keep b o (fun z => n (hM b z)) e
    cases m with
    | none =>
      cases ho
      refine ⟨rfl, ⟨keep, x.nx.sub, fun b z => x.nx.sup b z fun y => ?_, x.nx.there, x.ab.dom⟩, fun i d l h1 h2 _ => ?_⟩
      · obtain ⟨j, hj, _⟩ := hM b y
        cases hj
      · rcases x.nx.own l ⟨i, d, h1, h2⟩ with z | z
        · obtain ⟨j, hj, _⟩ := hM l z
          cases hj
        · exact z
    | some j =>
      unfold outOf at ho
      cases he : t.e[j]? with
      | none => simp only [he] at ho; cases ho
      | some c =>
        cases c with
        | no => simp only [he] at ho; cases ho
        | val d => simp only [he] at ho; cases ho
        | own d =>
          simp only [he] at ho
          cases ho
          obtain ⟨l, hobj, h1, h2, h3, h4⟩ := x.ab.own j d he
          have hjl : j < ds.length := a.lt j rfl
          obtain ⟨l0, ho0, q1, q2, q3, q4⟩ := a.own j _ rfl (List.getElem?_eq_getElem hjl)
          have := fixj j _ rfl q1
          rw [h1] at this
          cases this
          refine ⟨⟨j, l, hobj, rfl, q1, h3, h4⟩, ⟨keep, x.nx.sub, fun b z => ?_, x.nx.there, x.ab.dom⟩, fun i d' l' y1 y2 y3 => ?_⟩
          · by_cases hb : Own (L2.start N vs) (mkEnv (some j) N.length ds) b
            · obtain ⟨j', e', h'⟩ := hM b hb
              cases e'
              rw [q1] at h'
              cases h'
              exact h2
            · exact x.nx.sup b z hb
          · rcases x.nx.own l' ⟨i, d', y1, y2⟩ with z | z
            · obtain ⟨j', e', h'⟩ := hM l' z
              cases e'
              rw [q1] at h'
              cases h'
              exact (y3 (by rw [x.ab.inj i j d' d l y1 he y2 h1])).elim
            · exact z
  have rt : ∀ {p : PV} {e : DEnv}, FPost R m A H vs Q E (finP m p e) → ∀ (v : V) (t : SS), t.e = e → St2 R (fxOf m vs) ⟨L2.start N vs, mkEnv m N.length ds, A, H⟩ t → Sr R t v p → Fr H v p → Q v t.H := by
    intro p e hp v t et x r f
    subst et
    unfold finP at hp
    cases ho : outOf m t.e with
    | none => simp only [ho] at hp; exact hp.elim
    | some o =>
      simp only [ho] at hp
      obtain ⟨o1, o2, o3⟩ := out x ho
      cases p with
      | dat d => exact hp v t.A t.H o2 o1 r
      | fresh d =>
        obtain ⟨l, hobj, rfl, h1, h2, h3, h4⟩ := r
        exact hp l hobj t.A t.H o2 o1 h1 (f l rfl) h3 h4
      | pk i =>
        dsimp only at hp
        by_cases hm : m = some i
        · rw [if_pos hm] at hp
          exact hp.elim
        · rw [if_neg hm] at hp
          obtain ⟨r1, _⟩ := r
          cases he : t.e[i]? with
          | none => simp only [he] at hp; exact hp.elim
          | some c =>
            cases c with
            | no => simp only [he] at hp; exact hp.elim
            | val d =>
              simp only [he] at hp
              obtain ⟨w, q1, q2⟩ := x.ab.val i d he
              rw [r1] at q1
              cases q1
              exact hp v t.A t.H o2 o1 q2
            | own d =>
              simp only [he] at hp
              obtain ⟨l, hobj, q1, q2, q3, q4⟩ := x.ab.own i d he
              rw [r1] at q1
              cases q1
              exact hp l hobj t.A t.H o2 o1 q2 (o3 i d l he r1 hm) q3 q4
  cases o with
  | rt p e => exact rt h
  | nx e => exact fun t et x => rt (p := .dat .non) (e := e) h .non t et x rfl trivial
  | bk e => exact h.elim
  | ct e => exact h.elim
  | bot => exact h.elim
  | ex x e =>
    intro cls dd t et st r
    subst et
    unfold fin at h
    dsimp only at h
    cases ho : outOf m t.e with
    | none => simp only [ho] at h; exact h.elim
    | some o =>
      simp only [ho] at h
      obtain ⟨o1, o2, _⟩ := out st ho
      exact h cls dd t.A t.H o2 o1 r
end DL

set_option Elab.async false
set_option linter.all false
set_option maxRecDepth 100000
namespace DL
open PySem PySem.Spec L2 PyProof.Rows

/-! ### a def's body gives its promise -/
section
variable {P : Program} {w : World} {K : PySem.W.Frag} {mg : Str → Option Value} {base : Heap}
abbrev We (E : XK) : WX := fun cls d _ H => E cls d H
theorem _root_.L2.Fun.okN {CX : CXT} {x qual : Str} {st : Stmt} {f : Addr} {fd : FuncData} {N ps : List Str} {k : Nat} {sp : Sp} (F : Fun K x qual st f fd) (S : FnScope N ps (defScope st)) (ln : ∀ vs H Q E, sp vs H Q E → vs.length = ps.length)
    (hb : ∀ (cdv : Value) (A : Around) (outer : List Env) (s : Shared) (H : Hp) (vs : List V) (Q : VK) (E : XK), Room k (A.deeper (envOfC qual (defScope st) s.heap.objs.size f cdv)) → sp vs H Q E →
      ∃ t, PSs (cxOf CX P w K mg base N qual (defScope st) f cdv A outer s H E) (defBody st) t ∧ t { nx := fun _ H' => Q .non H', rt := Q } (start N vs) H) : FnOk P w K mg base CX (k + 1) f fd ps sp := by
  obtain ⟨_, _, _, _, _, _, cdv, _, _, rfl, lk, hc⟩ := F.ex
  exact fn_of lk hc S ln (hb cdv)
theorem fn_data0 {x qual : Str} {st : Stmt} {f : Addr} {fd : FuncData} {N ps : List Str} {k : Nat} {B : FS} (F : Fun K x qual st f fd) (S : FnScope N ps (defScope st)) (hN : ps.length ≤ N.length)
    (hb : ∀ (cdv : Value) (A : Around) (outer : List Env) (s : Shared) (H : Hp) (E : XK), Room k (A.deeper (envOfC qual (defScope st) s.heap.objs.size f cdv)) →
      L2N.Takes (cxOf (L2N.CX P w) P w K mg base N qual (defScope st) f cdv A outer s H E) (We E) → DSs (cxOf (L2N.CX P w) P w K mg base N qual (defScope st) f cdv A outer s H E) [] (We E) (defBody st) B) :
    FnOk P w K mg base (L2N.CX P w) (k + 1) f fd ps (spD ⟨K, mg⟩ none ps.length (fnD none N.length B)) :=
  F.okN S spD_len fun cdv A outer s H vs Q E hr h => by
    obtain ⟨ds, A0, h1, h2, h3, h4⟩ := h
    refine ⟨_, hb cdv A outer s H E hr (L2N.takes_of rfl rfl rfl rfl), ?_⟩
    exact ⟨_, A0, (call_start (by omega) (by omega) h3).1, call_end (by omega) (by omega) h3 h4⟩
theorem fn_dataM {x qual : Str} {st : Stmt} {f : Addr} {fd : FuncData} {N ps : List Str} {k : Nat} {B : FS} {j : Nat} (F : Fun K x qual st f fd) (S : FnScope N ps (defScope st)) (hN : ps.length ≤ N.length)
    (hb : ∀ (cdv : Value) (A : Around) (outer : List Env) (s : Shared) (H : Hp) (E : XK) (v : V), Room k (A.deeper (envOfC qual (defScope st) s.heap.objs.size f cdv)) →
      L2N.Takes (cxOf (L2N.CX P w) P w K mg base N qual (defScope st) f cdv A outer s H E) (We E) → DSs (cxOf (L2N.CX P w) P w K mg base N qual (defScope st) f cdv A outer s H E) [(j, v)] (We E) (defBody st) B) :
    FnOk P w K mg base (L2N.CX P w) (k + 1) f fd ps (spD ⟨K, mg⟩ (some j) ps.length (fnD (some j) N.length B)) :=
  F.okN S spD_len fun cdv A outer s H vs Q E hr h => by
    obtain ⟨ds, A0, h1, h2, h3, h4⟩ := h
    have hj : j < vs.length := by
      have := h3.lt j rfl
      omega
    have hfx : fxOf (some j) vs = [(j, vs[j])] := by
      unfold fxOf
      simp only [List.getElem?_eq_getElem hj]
    have c1 := (call_start (N := N) (by omega) (by omega) h3).1
    have c2 := call_end (N := N) (by omega) (by omega) h3 h4
    rw [hfx] at c1 c2
    exact ⟨_, hb cdv A outer s H E vs[j] hr (L2N.takes_of rfl rfl rfl rfl), _, A0, c1, c2⟩
end

/-! ### a call -/
mutual
/-- data that holds no list, no dict -/
def nolst : D → Bool
  | .non => true
  | .bl _ => true
  | .int _ => true
  | .str _ => true
  | .tup ds => nolsts ds
  | .lst _ => false
  | .dct _ _ => false
  | .ins _ _ ds => nolsts ds
  | .exn _ ds => nolsts ds
  | .adr _ => true
def nolsts : List D → Bool
  | [] => true
  | d :: ds => nolst d && nolsts ds
end
def nolstE : D → Bool
  | .lst ds => nolsts ds
  | .dct _ ds => nolsts ds
  | _ => false
def nolstN : Option D → Bool
  | none => true
  | some d => nolst d
def nolstO : Option D → Bool
  | none => true
  | some d => nolstE d
section
variable {R : RC} {A B : Addr → Prop} {H : Hp}
theorem hid_two (hB : ∀ b, B b → (∃ vs, H b = some (.lst vs)) ∨ ∃ kvs, H b = some (.dK kvs)) {b : Addr} {o : HO} (h : hid A H b = some o) (n1 : ∀ vs, o ≠ .lst vs) (n2 : ∀ kvs, o ≠ .dK kvs) : hid (fun b => A b ∨ B b) H b = some o := by
  obtain ⟨h1, h2⟩ := hid_some.mp h
  refine hid_some.mpr ⟨fun z => z.elim h1 fun z => ?_, h2⟩
  rcases hB b z with ⟨vs, e⟩ | ⟨kvs, e⟩
  · rw [h2] at e
    exact n1 vs (Option.some.inj e)
  · rw [h2] at e
    exact n2 kvs (Option.some.inj e)
mutual
theorem nolst_rep (hB : ∀ b, B b → (∃ vs, H b = some (.lst vs)) ∨ ∃ kvs, H b = some (.dK kvs)) : ∀ (d : D) (v : V), nolst d = true → Rep R (hid A H) d v → Rep R (hid (fun b => A b ∨ B b) H) d v
  | .non, _, _, r => r
  | .bl _, _, _, r => r
  | .int _, _, _, r => r
  | .str _, _, _, r => r
  | .tup ds, v, h, r => by
    obtain ⟨a, vs, e, q, l⟩ := r
    refine ⟨a, vs, e, ?_, nolsts_rep hB ds vs (by simpa [nolst] using h) l⟩
    rcases q with (q | ⟨o, q⟩) | q
    · exact .inl (.inl (hid_two hB q (fun _ z => nomatch z) (fun _ z => nomatch z)))
    · exact .inl (.inr ⟨o, hid_two hB q (fun _ z => nomatch z) (fun _ z => nomatch z)⟩)
    · exact .inr q
  | .lst _, _, h, _ => by simp [nolst] at h
  | .dct _ _, _, h, _ => by simp [nolst] at h
  | .ins c ns ds, v, h, r => by
    obtain ⟨a, C, dx, vs, e, m, q, n, l⟩ := r
    exact ⟨a, C, dx, vs, e, m, hid_two hB q (fun _ z => nomatch z) (fun _ z => nomatch z), n, nolsts_rep hB ds vs (by simpa [nolst] using h) l⟩
  | .adr _, _, _, r => r
  | .exn c ds, v, h, r => by
    obtain ⟨a, C, dx, vs, e, m, q, x, l⟩ := r
    refine ⟨a, C, dx, vs, e, m, hid_two hB q (fun _ z => nomatch z) (fun _ z => nomatch z), x.imp id fun ⟨dy, u, e1, e2, e3⟩ => ⟨dy, u, e1, e2, ?_⟩, nolsts_rep hB ds vs (by simpa [nolst] using h) l⟩
    exact hid_two hB e3 (fun _ z => nomatch z) (fun _ z => nomatch z)
theorem nolsts_rep (hB : ∀ b, B b → (∃ vs, H b = some (.lst vs)) ∨ ∃ kvs, H b = some (.dK kvs)) : ∀ (ds : List D) (vs : List V), nolsts ds = true → RepL R (hid A H) ds vs → RepL R (hid (fun b => A b ∨ B b) H) ds vs
  | [], _, _, r => r
  | d :: ds, _, h, r => by
    obtain ⟨v, ws, e, p, q⟩ := r
    have h' : nolst d = true ∧ nolsts ds = true := by simpa [nolsts] using h
    exact ⟨v, ws, e, nolst_rep hB d v h'.1 p, nolsts_rep hB ds ws h'.2 q⟩
end
theorem nolst_own (hB : ∀ b, B b → (∃ vs, H b = some (.lst vs)) ∨ ∃ kvs, H b = some (.dK kvs)) {d : D} {ho : HO} (h : nolstE d = true) (r : OwnR R (hid A H) d ho) : OwnR R (hid (fun b => A b ∨ B b) H) d ho := by
  cases d <;> first
    | exact r.elim
    | (obtain ⟨vs, e, q⟩ := r; exact ⟨vs, e, nolsts_rep hB _ _ h q⟩)
    | (obtain ⟨vs, e, l, q⟩ := r; exact ⟨vs, e, l, nolsts_rep hB _ _ h q⟩)
end
theorem OwnR.kind {R : RC} {H : Hp} {d : D} {ho : HO} (r : OwnR R H d ho) : (∃ vs, ho = .lst vs) ∨ ∃ kvs, ho = .dK kvs := by
  cases d <;> first
    | exact r.elim
    | (obtain ⟨vs, e, _⟩ := r; exact .inl ⟨vs, e⟩)
    | (obtain ⟨vs, e, _⟩ := r; exact .inr ⟨_, e⟩)

/-- the slot whose list the callee may change -/
def mSlot (m : Option Nat) (ps : List PV) (e : DEnv) : Option (Option Nat) := match m with
  | none => some none
  | some j => match ps[j]? with
    | some (.pk i) => match e[i]? with
      | some (.own _) => some (some i)
      | _ => none
    | _ => none
/-- no other argument is that list; none was just made -/
def okA (m : Option Nat) (mi : Option Nat) : Nat → List PV → Bool
  | _, [] => true
  | k, p :: ps => (match p with
    | .dat _ => true
    | .fresh _ => false
    | .pk i => m == some k || mi != some i) && okA m mi (k + 1) ps
/-- the slots whose lists are handed in to be read -/
def borS (mi : Option Nat) (e : DEnv) : List PV → List Nat
  | [] => []
  | .pk i :: ps => if mi = some i then borS mi e ps else match e[i]? with
    | some (.own _) => i :: borS mi e ps
    | _ => borS mi e ps
  | _ :: ps => borS mi e ps
def frzAt (i : Nat) (e : DEnv) : DEnv := match e[i]? with
  | some (.own d) => e.set i (.val d)
  | _ => e
def frzAll : List Nat → DEnv → DEnv
  | [], e => e
  | i :: is, e => frzAll is (frzAt i e)
def putM (mi : Option Nat) (o : Option D) (e : DEnv) : DEnv := match mi, o with
  | some i, some d => e.set i (.own d)
  | _, _ => e
/-- where nothing that comes back reaches the lists handed in, they stay one's own -/
def aft (mi : Option Nat) (o : Option D) (k : Bool) (ps : List PV) (e : DEnv) : DEnv := putM mi o (if k = true then e else frzAll (borS mi e ps) e)
def callF (mi : Option Nat) (ps : List PV) (r : FOut) (e : DEnv) : EO PV := match r with
  | .ret d o => .ok (.dat d) (aft mi o (nolst d && nolstO o) ps e)
  | .own d o => .ok (.fresh d) (aft mi o (nolstE d && nolstO o) ps e)
  | .ex x o => .ex x (aft mi o (nolstN x.a && nolstO o) ps e)
  | .bot => .bot
def callR (m : Option Nat) (F : Fn) (ps : List PV) (e : DEnv) : EO PV := match mSlot m ps e with
  | none => .bot
  | some mi => if okA m mi 0 ps = true then match resL ps e with
      | some ds => callF mi ps (F ds) e
      | none => .bot
    else .bot
def eCall (m : Option Nat) (F : Fn) (fs : List F1) : F1 := fun e => (eArgs fs e).bind fun ps e1 => callR m F ps e1
theorem okA_get {m mi : Option Nat} : ∀ {ps : List PV} {k i : Nat}, okA m mi k ps = true → (∀ d, ps[i]? ≠ some (.fresh d)) ∧ ∀ j, ps[i]? = some (.pk j) → m = some (k + i) ∨ mi ≠ some j
  | [], k, i, _ => ⟨fun d h => by simp at h, fun j h => by simp at h⟩
  | p :: ps, k, 0, h => by
    unfold okA at h
    rw [Bool.and_eq_true] at h
    refine ⟨fun d q => ?_, fun j q => ?_⟩
    · simp at q
      subst q
      cases h.1
    · simp at q
      subst q
      have := h.1
      simp only [Bool.or_eq_true, beq_iff_eq, bne_iff_ne] at this
      exact this
  | p :: ps, k, i + 1, h => by
    unfold okA at h
    rw [Bool.and_eq_true] at h
    have ih := okA_get (i := i) h.2
    have e : k + 1 + i = k + (i + 1) := by omega
    rw [e] at ih
    simpa using ih
theorem borS_mem {mi : Option Nat} {e : DEnv} {i : Nat} {d : D} : ∀ {ps : List PV}, PV.pk i ∈ ps → mi ≠ some i → e[i]? = some (.own d) → i ∈ borS mi e ps
  | p :: ps, h, n, q => by
    rcases List.mem_cons.mp h with rfl | h
    · unfold borS
      rw [if_neg n, q]
      exact List.mem_cons_self
    · have ih := borS_mem h n q
      cases p with
      | dat _ => exact ih
      | fresh _ => exact ih
      | pk k =>
        unfold borS
        split
        · exact ih
        · split
          · exact List.mem_cons_of_mem _ ih
          · exact ih
theorem borS_ne {mi : Option Nat} {e : DEnv} {i : Nat} : ∀ {ps : List PV}, i ∈ borS mi e ps → mi ≠ some i ∧ ∃ d, e[i]? = some (.own d)
  | p :: ps, h => by
    cases p with
    | dat _ => exact borS_ne (ps := ps) h
    | fresh _ => exact borS_ne (ps := ps) h
    | pk k =>
      unfold borS at h
      split at h
      · exact borS_ne (ps := ps) h
      · rename_i hn
        split at h
        · rename_i d hd
          rcases List.mem_cons.mp h with rfl | h
          · exact ⟨hn, d, hd⟩
          · exact borS_ne (ps := ps) h
        · exact borS_ne (ps := ps) h
theorem SrL.get {R : RC} {s : SS} : ∀ {vs : List V} {ps : List PV} {i : Nat} {p : PV}, SrL R s vs ps → ps[i]? = some p → ∃ v, vs[i]? = some v ∧ Sr R s v p
  | [], [], i, p, _, h => by simp at h
  | v :: vs, q :: ps, 0, p, r, h => by
    simp at h
    subst h
    exact ⟨v, rfl, r.1⟩
  | v :: vs, q :: ps, i + 1, p, r, h => by
    obtain ⟨w, h1, h2⟩ := SrL.get (i := i) r.2 (by simpa using h)
    exact ⟨w, by simpa using h1, h2⟩
  | [], _ :: _, _, _, r, _ => r.elim
  | _ :: _, [], _, _, r, _ => r.elim
theorem SrL.len {R : RC} {s : SS} : ∀ {vs : List V} {ps : List PV}, SrL R s vs ps → vs.length = ps.length
  | [], [], _ => rfl
  | _ :: _, _ :: _, r => by simp [SrL.len r.2]
  | [], _ :: _, r => r.elim
  | _ :: _, [], r => r.elim
theorem resL_get {e : DEnv} : ∀ {ps : List PV} {ds : List D} {i : Nat} {d : D}, resL ps e = some ds → ds[i]? = some d → ∃ p, ps[i]? = some p ∧ res p e = some d
  | [], ds, i, d, h, q => by cases h; simp at q
  | p :: ps, ds, i, d, h, q => by
    unfold resL at h
    cases h1 : res p e with
    | none => simp only [h1] at h; cases h
    | some d1 =>
      simp only [h1] at h
      cases h2 : resL ps e with
      | none => simp only [h2] at h; cases h
      | some ds1 =>
        simp only [h2] at h
        cases h
        cases i with
        | zero =>
          simp at q
          subst q
          exact ⟨p, rfl, h1⟩
        | succ i =>
          obtain ⟨p', h3, h4⟩ := resL_get (i := i) h2 (by simpa using q)
          exact ⟨p', by simpa using h3, h4⟩
theorem resL_len {e : DEnv} : ∀ {ps : List PV} {ds : List D}, resL ps e = some ds → ds.length = ps.length
  | [], ds, h => by cases h; rfl
  | p :: ps, ds, h => by
    unfold resL at h
    cases h1 : res p e with
    | none => simp only [h1] at h; cases h
    | some d1 =>
      simp only [h1] at h
      cases h2 : resL ps e with
      | none => simp only [h2] at h; cases h
      | some ds1 =>
        simp only [h2] at h
        cases h
        simp [resL_len h2]
end DL

set_option Elab.async false
set_option linter.all false
set_option maxRecDepth 100000
namespace DL
open PySem PySem.Spec L2 PyProof.Rows

theorem aft_get {mi : Option Nat} {o : Option D} {e : DEnv} {i : Nat} {c : Cell} (h : (putM mi o e)[i]? = some c) : (∃ d, mi = some i ∧ o = some d ∧ c = .own d ∧ i < e.length) ∨ e[i]? = some c := by
  unfold putM at h
  split at h
  · rename_i k d
    rcases set_get h with ⟨rfl, hl, rfl⟩ | ⟨_, h⟩
    · exact .inl ⟨d, rfl, rfl, rfl, hl⟩
    · exact .inr h
  · exact .inr h
theorem putM_len {mi : Option Nat} {o : Option D} {e : DEnv} : (putM mi o e).length = e.length := by
  unfold putM
  split
  · rw [List.length_set]
  · rfl
/-- THE CALL: from what is wanted of the outcome to the callee's promise; either nothing is lent, or nothing that comes back reaches it -/
theorem call_core {R : RC} {fx : List (Nat × V)} {W : WX} {s : SS} {m mi : Option Nat} {ps : List PV} {ds : List D} {vs : List V} {F : Fn} {Q : VK} (a : Sa R fx s) (r : SrL R s vs ps) (hm : mSlot m ps s.e = some mi) (ho : okA m mi 0 ps = true) (hd : resL ps s.e = some ds)
    (hfl : (∀ i ∈ borS mi s.e ps, False) ∨ match F ds with
      | .ret d o => (nolst d && nolstO o) = true
      | .own d o => (nolstE d && nolstO o) = true
      | .ex x o => (nolstN x.a && nolstO o) = true
      | .bot => True)
    (h : match F ds with
      | .ret d o => EPost (RE R fx) W s Q (.ok (.dat d) (putM mi o s.e))
      | .own d o => EPost (RE R fx) W s Q (.ok (.fresh d) (putM mi o s.e))
      | .ex x o => EPost (RE R fx) W s Q (.ex x (putM mi o s.e))
      | .bot => False) : spD R m vs.length F vs s.H Q (WE W s.σ) := by
  have lv : vs.length = ps.length := SrL.len r
  have ld : ds.length = ps.length := resL_len hd
  -- the lists that are lent
  obtain ⟨B, hBdef⟩ : ∃ B : Addr → Prop, B = fun b => ∃ i, i ∈ borS mi s.e ps ∧ s.σ[i]? = some (some (.ref b)) := ⟨_, rfl⟩
  have hB : ∀ b, B b ↔ ∃ i, i ∈ borS mi s.e ps ∧ s.σ[i]? = some (some (.ref b)) := fun b => by rw [hBdef]
  have BO : ∀ b, B b → ∃ i d ho, mi ≠ some i ∧ s.e[i]? = some (.own d) ∧ s.σ[i]? = some (some (.ref b)) ∧ s.A b ∧ s.H b = some ho ∧ OwnR R (hid s.A s.H) d ho := fun b hb => by
    obtain ⟨i, hi, hs⟩ := (hB b).mp hb
    obtain ⟨hn, d, he⟩ := borS_ne hi
    obtain ⟨l, ho, q1, q2, q3, q4⟩ := a.own i d he
    rw [hs] at q1
    cases q1
    exact ⟨i, d, ho, hn, he, hs, q2, q3, q4⟩
  have hle : Le (hid s.A s.H) (hid (fun b => s.A b ∧ ¬ B b) s.H) := hid_mono fun _ z => z.1
  -- the mutable argument
  have mutA : ∀ j, m = some j → ∃ i d l ho, mi = some i ∧ ps[j]? = some (.pk i) ∧ s.e[i]? = some (.own d) ∧ vs[j]? = some (.ref l) ∧ s.σ[i]? = some (some (.ref l)) ∧ s.A l ∧ ¬ B l ∧ s.H l = some ho ∧ OwnR R (hid s.A s.H) d ho := fun j hj => by
    subst hj
    unfold mSlot at hm
    cases hp : ps[j]? with
    | none => simp only [hp] at hm; cases hm
    | some p =>
      cases p with
      | dat _ => simp only [hp] at hm; cases hm
      | fresh _ => simp only [hp] at hm; cases hm
      | pk i =>
        simp only [hp] at hm
        cases he : s.e[i]? with
        | none => simp only [he] at hm; cases hm
        | some c =>
          cases c with
          | no => simp only [he] at hm; cases hm
          | val _ => simp only [he] at hm; cases hm
          | own d =>
            simp only [he] at hm
            have hmi : mi = some i := (Option.some.inj hm).symm
            obtain ⟨v, h1, h2⟩ := SrL.get r hp
            obtain ⟨l, ho, q1, q2, q3, q4⟩ := a.own i d he
            have h2' := h2.1
            rw [q1] at h2'
            cases h2'
            refine ⟨i, d, l, ho, hmi, rfl, he, h1, q1, q2, fun z => ?_, q3, q4⟩
            obtain ⟨i', d', _, n1, n2, n3, _⟩ := BO l z
            exact n1 (by rw [hmi, a.inj i i' d d' l he n2 q1 n3])
  have mno : m = none → mi = none := fun e => by
    subst e
    unfold mSlot at hm
    exact (Option.some.inj hm).symm
  have args : ArgsOk R m (fun b => s.A b ∧ ¬ B b) s.H vs ds := by
    refine ⟨fun i d q n => ?_, fun j d q1 q2 => ?_, fun b z => a.dom b z.1, fun j q => ?_⟩
    · obtain ⟨p, h1, h2⟩ := resL_get hd q
      obtain ⟨v, h3, h4⟩ := SrL.get r h1
      refine ⟨v, h3, ?_⟩
      obtain ⟨k1, k2⟩ := okA_get (i := i) ho
      cases p with
      | fresh d' => exact (k1 d' h1).elim
      | dat d' =>
        cases h2
        exact Rep.le hle _ _ h4
      | pk k =>
        have hk : mi ≠ some k := by
          rcases k2 k h1 with z | z
          · rw [Nat.zero_add] at z
            exact (n z).elim
          · exact z
        rcases res_pk h2 with he | he
        · obtain ⟨l, hob, q1, q2, q3, q4⟩ := a.own k d he
          have h4' := h4.1
          rw [q1] at h4'
          cases h4'
          refine OwnR.rep (q4.le hle) (hid_some.mpr ⟨fun z => z.2 ((hB l).mpr ⟨k, ?_, q1⟩), q3⟩)
          exact borS_mem (List.mem_of_getElem? h1) hk he
        · obtain ⟨w, q1, q2⟩ := a.val k d he
          have h4' := h4.1
          rw [q1] at h4'
          cases h4'
          exact Rep.le hle _ _ q2
    · obtain ⟨i, d', l, hob, y1, y2, y3, y4, y5, y6, y7, y8, y9⟩ := mutA j q1
      obtain ⟨p, h1, h2⟩ := resL_get hd q2
      rw [y2] at h1
      cases h1
      have : d' = d := by
        rcases res_pk h2 with z | z
        · rw [y3] at z
          cases z
          rfl
        · rw [y3] at z
          cases z
      subst this
      exact ⟨l, hob, y4, ⟨y6, y7⟩, y8, y9.le hle⟩
    · obtain ⟨i, d', l, hob, y1, y2, _⟩ := mutA j q
      rw [ld]
      exact (List.getElem?_eq_some_iff.mp y2).1
  have mad : ∀ b, MAddr m vs b → ∃ i d, mi = some i ∧ s.e[i]? = some (.own d) ∧ s.σ[i]? = some (some (.ref b)) := fun b ⟨j, h1, h2⟩ => by
    obtain ⟨i, d', l, hob, y1, y2, y3, y4, y5, _⟩ := mutA j h1
    rw [y4] at h2
    cases h2
    exact ⟨i, d', y1, y3, y5⟩
  have madM : ∀ b, MAddr m vs b → s.M b := fun b z => by
    obtain ⟨i, d, h1, h2, h3⟩ := mad b z
    exact ⟨i, d, h2, h3⟩
  -- the state behind
  have aft : ∀ {A' : Addr → Prop} {H' : Hp} {o : Option D}, NxF (MAddr m vs) (fun b => s.A b ∧ ¬ B b) s.H A' H' → OutOk R m vs A' H' o → ((∀ b, ¬ B b) ∨ nolstO o = true) →
      St1 R fx s ⟨s.σ, putM mi o s.e, fun b => A' b ∨ B b, H'⟩ ∧ ∀ b, B b → (∃ ws, H' b = some (.lst ws)) ∨ ∃ kvs, H' b = some (.dK kvs) := by
    intro A' H' o x oo hfo
    have Bk : ∀ b, B b → ¬ MAddr m vs b := fun b hb z => by
      obtain ⟨i, d, ho, n1, n2, n3, _⟩ := BO b hb
      obtain ⟨i', d', z1, z2, z3⟩ := mad b z
      rw [a.inj i i' d d' b n2 z2 n3 z3] at n1
      exact n1 z1
    have B' : ∀ b, B b → (∃ ws, H' b = some (.lst ws)) ∨ ∃ kvs, H' b = some (.dK kvs) := fun b hb => by
      obtain ⟨i, d, hob, n1, n2, n3, n4, n5, n6⟩ := BO b hb
      have := x.keep b hob (Bk b hb) n5
      rcases n6.kind with ⟨ws, e⟩ | ⟨kvs, e⟩
      · exact .inl ⟨ws, by rw [this, e]⟩
      · exact .inr ⟨kvs, by rw [this, e]⟩
    have hle2 : Le (hid s.A s.H) (hid (fun b => A' b ∨ B b) H') := fun b o' e => by
      obtain ⟨e1, e2⟩ := hid_some.mp e
      refine hid_some.mpr ⟨fun z => ?_, x.keep b o' (fun z => e1 (a.sub b (madM b z))) e2⟩
      rcases z with z | z
      · rcases x.sub b z with z | z
        · exact e1 z.1
        · rw [e2] at z; cases z
      · obtain ⟨_, _, _, _, _, _, n4, _⟩ := BO b z
        exact e1 n4
    have own' : ∀ b, Own s.σ (putM mi o s.e) b → Own s.σ s.e b := fun b ⟨i, d, h1, h2⟩ => by
      rcases aft_get h1 with ⟨d', hi, ho', _, _⟩ | h1
      · cases oo' : o with
        | none => rw [oo'] at ho'; cases ho'
        | some d0 =>
          rw [oo'] at oo
          obtain ⟨j, l, hob, y1, y2, _⟩ := oo
          obtain ⟨i', dd, l', ho2, w1, w2, w3, w4, w5, _⟩ := mutA j y1
          rw [hi] at w1
          cases w1
          exact ⟨_, dd, w3, h2⟩
      · exact ⟨i, d, h1, h2⟩
    refine ⟨⟨rfl, ⟨fun b o' n e => x.keep b o' (fun z => n (madM b z)) e, fun b z => ?_, fun b z => .inl (own' b z), fun b z _ => ?_, x.there⟩, fun i d q => ?_, ?_⟩, B'⟩
    · rcases z with z | z
      · rcases x.sub b z with z | z
        · exact .inl z.1
        · exact .inr z
      · obtain ⟨_, _, _, _, _, _, n4, _⟩ := BO b z
        exact .inl n4
    · by_cases hb : B b
      · exact .inr hb
      · exact .inl (x.sup b ⟨z, hb⟩)
    · show ∃ d', (putM mi o s.e)[i]? = _ ∨ (putM mi o s.e)[i]? = _
      unfold putM
      split
      · rename_i k d0
        by_cases hk : i = k
        · subst hk
          have hl : i < s.e.length := by rcases q with q | q <;> exact (List.getElem?_eq_some_iff.mp q).1
          exact ⟨d0, .inl (List.getElem?_set_self hl)⟩
        · exact ⟨d, by rw [List.getElem?_set_ne (Ne.symm hk)]; exact q⟩
      · exact ⟨d, q⟩
    · refine ⟨by show s.σ.length = (putM mi o s.e).length; rw [putM_len]; exact a.len, a.fix, fun i d q => ?_, fun i d q => ?_, fun i j d d' l q1 q2 q3 q4 => ?_, fun b z => ?_⟩
      · rcases aft_get q with ⟨d', _, _, z, _⟩ | q
        · cases z
        · obtain ⟨v, q1, q2⟩ := a.val i d q
          exact ⟨v, q1, Rep.le hle2 _ _ q2⟩
      · rcases aft_get q with ⟨d', hi, ho', hc, _⟩ | q
        · cases hc
          subst ho'
          obtain ⟨j, l, hob, y1, y2, y3, y4⟩ := oo
          obtain ⟨i', dd, l', ho2, w1, w2, w3, w4, w5, w6, w7, _⟩ := mutA j y1
          rw [hi] at w1
          cases w1
          rw [y2] at w4
          cases w4
          refine ⟨l, hob, w5, .inl (x.sup l ⟨w6, w7⟩), y3, ?_⟩
          rcases hfo with hfo | hfo
          · exact y4.le (hid_mono fun b z => z.elim id fun z => (hfo b z).elim)
          · exact nolst_own B' hfo y4
        · by_cases hi : mi = some i
          · -- the changed slot, though nothing came back of it
            cases hmm : m with
            | none => rw [mno hmm] at hi; cases hi
            | some j =>
              cases o with
              | none =>
                have : m = none := oo
                rw [hmm] at this
                cases this
              | some d0 =>
                obtain ⟨j', l, hob, y1, y2, y3, y4⟩ := oo
                obtain ⟨i', dd, l', ho2, w1, w2, w3, w4, w5, w6, w7, _⟩ := mutA j' y1
                rw [hi] at w1
                cases w1
                rw [y2] at w4
                cases w4
                have q' : (putM mi (some d0) s.e)[i]? = some (.own d) := by assumption
                unfold putM at q'
                rw [hi] at q'
                have hl : i < s.e.length := (List.getElem?_eq_some_iff.mp w3).1
                rw [List.getElem?_set_self hl] at q'
                cases q'
                refine ⟨l, hob, w5, .inl (x.sup l ⟨w6, w7⟩), y3, ?_⟩
                rcases hfo with hfo | hfo
                · exact y4.le (hid_mono fun b z => z.elim id fun z => (hfo b z).elim)
                · exact nolst_own B' hfo y4
          · obtain ⟨l, hob, q1, q2, q3, q4⟩ := a.own i d q
            have nm : ¬ MAddr m vs l := fun z => by
              obtain ⟨i', d', z1, z2, z3⟩ := mad l z
              exact hi (by rw [z1, a.inj i i' d d' l q z2 q1 z3])
            refine ⟨l, hob, q1, ?_, x.keep l hob nm q3, q4.le hle2⟩
            by_cases hb : B l
            · exact .inr hb
            · exact .inl (x.sup l ⟨q2, hb⟩)
      · have w : ∀ {k : Nat} {d : D}, (putM mi o s.e)[k]? = some (.own d) → ∃ d', s.e[k]? = some (.own d') := fun {k d} z => by
          rcases aft_get z with ⟨d', hi, ho', hc, _⟩ | z
          · subst ho'
            obtain ⟨j, l, hob, y1, y2, y3, y4⟩ := oo
            obtain ⟨i', dd, l', ho2, w1, w2, w3, _⟩ := mutA j y1
            rw [hi] at w1
            cases w1
            exact ⟨dd, w3⟩
          · exact ⟨_, z⟩
        obtain ⟨d1, z1⟩ := w q1
        obtain ⟨d2, z2⟩ := w q2
        exact a.inj i j d1 d2 l z1 z2 q3 q4
      · rcases z with z | z
        · exact x.dom b z
        · rcases B' b z with ⟨ws, e⟩ | ⟨kvs, e⟩
          · exact ⟨_, e⟩
          · exact ⟨_, e⟩
  have Bor : (∀ i ∈ borS mi s.e ps, False) → ∀ b, ¬ B b := fun z b hb => by
    obtain ⟨i, hi, _⟩ := (hB b).mp hb
    exact z i hi
  refine ⟨ds, fun b => s.A b ∧ ¬ B b, rfl, by omega, args, ?_⟩
  cases hF : F ds with
  | bot => simp only [hF] at h
  | ret d o =>
    simp only [hF] at h hfl
    intro v A' H' x oo rv
    have hf2 : (∀ b, ¬ B b) ∨ (nolst d && nolstO o) = true := hfl.imp Bor id
    obtain ⟨st, B'⟩ := aft x oo (hf2.imp id fun z => by rw [Bool.and_eq_true] at z; exact z.2)
    refine h v ⟨s.σ, putM mi o s.e, fun b => A' b ∨ B b, H'⟩ rfl st ⟨?_, trivial⟩
    rcases hf2 with z | z
    · exact Rep.le (hid_mono fun b y => y.elim id fun y => (z b y).elim) _ _ rv
    · rw [Bool.and_eq_true] at z
      exact nolst_rep B' d v z.1 rv
  | own d o =>
    simp only [hF] at h hfl
    intro l hob A' H' x oo hA hn hl rv
    have hf2 : (∀ b, ¬ B b) ∨ (nolstE d && nolstO o) = true := hfl.imp Bor id
    obtain ⟨st, B'⟩ := aft x oo (hf2.imp id fun z => by rw [Bool.and_eq_true] at z; exact z.2)
    refine h (.ref l) ⟨s.σ, putM mi o s.e, fun b => A' b ∨ B b, H'⟩ rfl st ⟨⟨l, hob, rfl, .inl hA, fun z => ?_, hl, ?_⟩, fun l' e => by cases e; exact hn⟩
    · rcases st.nx.own l z with z | z
      · obtain ⟨o', e'⟩ := a.dom l (a.sub l z)
        rw [hn] at e'
        cases e'
      · obtain ⟨i, d', z1, z2⟩ := (show Own s.σ (putM mi o s.e) l from by assumption)
        rcases aft_get z1 with ⟨d2, hi, ho', hc, _⟩ | z1
        · subst ho'
          obtain ⟨j, l2, hob2, y1, y2, y3, y4⟩ := oo
          obtain ⟨i', dd, l', ho2, w1, w2, w3, w4, w5, w6, _⟩ := mutA j y1
          rw [hi] at w1
          cases w1
          rw [z2] at w5
          cases w5
          obtain ⟨o', e'⟩ := a.dom _ w6
          rw [hn] at e'
          cases e'
        · obtain ⟨l', ho2, q1, q2, q3, _⟩ := a.own i d' z1
          rw [z2] at q1
          cases q1
          rw [hn] at q3
          cases q3
    · rcases hf2 with z | z
      · exact rv.le (hid_mono fun b y => y.elim id fun y => (z b y).elim)
      · rw [Bool.and_eq_true] at z
        exact nolst_own B' z.1 rv
  | ex x o =>
    simp only [hF] at h hfl
    intro cls dd A' H' xx oo rx
    have hf2 := hfl.imp Bor id
    obtain ⟨st, B'⟩ := aft xx oo (hf2.imp id fun z => by rw [Bool.and_eq_true] at z; exact z.2)
    refine h cls dd ⟨s.σ, putM mi o s.e, fun b => A' b ∨ B b, H'⟩ rfl st ?_
    obtain ⟨C, h1, h2, h3⟩ := rx
    refine ⟨C, h1, h2, ?_⟩
    cases hx : x.a with
    | none => rw [hx] at h3; exact h3
    | some d =>
      rw [hx] at h3
      obtain ⟨dx, v, e1, e2, e3⟩ := h3
      refine ⟨dx, v, e1, ?_⟩
      rcases hf2 with z | z
      · have le := hid_mono (H := H') fun b (y : A' b ∨ B b) => y.elim id fun y => (z b y).elim
        exact ⟨le _ _ e2, Rep.le le _ _ e3⟩
      · refine ⟨hid_two B' e2 (fun _ z => nomatch z) (fun _ z => nomatch z), ?_⟩
        rw [Bool.and_eq_true] at z
        rw [hx] at z
        exact nolst_rep B' d v z.1 e3
end DL

set_option Elab.async false
set_option linter.all false
set_option maxRecDepth 100000
namespace DL
open PySem PySem.Spec L2 PyProof.Rows

theorem frzAll_get : ∀ {is : List Nat} {e : DEnv} {k : Nat}, (frzAll is e)[k]? = match e[k]? with
    | some (.own d) => if k ∈ is then some (.val d) else some (.own d)
    | c => c
  | [], e, k => by
    unfold frzAll
    split <;> simp_all
  | i :: is, e, k => by
    unfold frzAll
    rw [frzAll_get]
    by_cases hk : k = i
    · subst hk
      unfold frzAt
      cases he : e[k]? with
      | none => simp [he]
      | some c =>
        have hl := (List.getElem?_eq_some_iff.mp he).1
        cases c with
        | no => simp [he]
        | val d => simp [he]
        | own d => simp [List.getElem?_set_self hl]
    · have h1 : (frzAt i e)[k]? = e[k]? := by
        unfold frzAt
        split
        · rw [List.getElem?_set_ne (Ne.symm hk)]
        · rfl
      rw [h1]
      cases e[k]? with
      | none => rfl
      | some c =>
        cases c with
        | no => rfl
        | val d => rfl
        | own d => simp [hk]
theorem frzAll_ok {R : RC} {fx : List (Nat × V)} {b : SS} (ab : Sa R fx b) : ∀ {is : List Nat} {s : SS}, St1 R fx b s → ∃ t : SS, t.e = frzAll is s.e ∧ t.H = s.H ∧ St1 R fx b t
  | [], s, x => ⟨s, rfl, rfl, x⟩
  | i :: is, s, x => by
    have hst : ∃ t : SS, t.e = frzAt i s.e ∧ t.H = s.H ∧ St1 R fx b t := by
      unfold frzAt
      cases he : s.e[i]? with
      | none => exact ⟨s, rfl, rfl, x⟩
      | some c =>
        cases c with
        | no => exact ⟨s, rfl, rfl, x⟩
        | val d => exact ⟨s, rfl, rfl, x⟩
        | own d =>
          obtain ⟨l, ho, q1, _⟩ := x.ab.own i d he
          obtain ⟨t, h1, h2, h3, _⟩ := frz_ok (p := .pk i) (v := .ref l) (d := d) (e := s.e.set i (.val d)) ab x ⟨q1, d, .inl he⟩ trivial (by unfold frz; simp only [he])
          exact ⟨t, h1, h2, h3⟩
    obtain ⟨t, h1, h2, h3⟩ := hst
    obtain ⟨u, k1, k2, k3⟩ := frzAll_ok (is := is) ab h3
    exact ⟨u, by rw [k1, h1]; rfl, by rw [k2, h2], k3⟩
theorem res_frz {is : List Nat} {e : DEnv} {p : PV} : res p (frzAll is e) = res p e := by
  cases p with
  | dat d => rfl
  | fresh d => rfl
  | pk k =>
    unfold res
    dsimp only
    rw [frzAll_get]
    cases e[k]? with
    | none => rfl
    | some c =>
      cases c with
      | no => rfl
      | val d => rfl
      | own d =>
        by_cases hk : k ∈ is
        · simp [hk]
        · simp [hk]
theorem resL_frz {is : List Nat} {e : DEnv} : ∀ {ps : List PV}, resL ps (frzAll is e) = resL ps e
  | [] => rfl
  | p :: ps => by
    unfold resL
    rw [res_frz, resL_frz]
theorem borS_all {mi : Option Nat} {e e' : DEnv} {ps0 : List PV} (h : ∀ i ∈ borS mi e ps0, ∀ d : D, e'[i]? ≠ some (.own d)) (g : ∀ (i : Nat) (d : D), e'[i]? = some (.own d) → ∃ d', e[i]? = some (.own d')) : ∀ {ps : List PV}, (∀ p ∈ ps, p ∈ ps0) → borS mi e' ps = []
  | [], _ => rfl
  | p :: ps, hs => by
    have ih := borS_all h g (ps := ps) fun q hq => hs q (List.mem_cons_of_mem _ hq)
    cases p with
    | dat _ => exact ih
    | fresh _ => exact ih
    | pk k =>
      unfold borS
      split
      · exact ih
      · rename_i hn
        split
        · rename_i d hd
          obtain ⟨d', hd'⟩ := g k d hd
          exact (h k (borS_mem (hs _ List.mem_cons_self) hn hd') d hd).elim
        · exact ih
theorem call_post {R : RC} {fx : List (Nat × V)} {W : WX} {s : SS} {m : Option Nat} {ps : List PV} {vs : List V} {F : Fn} {Q : VK} (a : Sa R fx s) (r : SrL R s vs ps) (h : EPost (RE R fx) W s Q (callR m F ps s.e)) : spD R m vs.length F vs s.H Q (WE W s.σ) := by
  unfold callR at h
  cases hm : mSlot m ps s.e with
  | none => simp only [hm] at h; exact h.elim
  | some mi =>
    simp only [hm] at h
    by_cases ho : okA m mi 0 ps = true
    · rw [if_pos ho] at h
      cases hd : resL ps s.e with
      | none => simp only [hd] at h; exact h.elim
      | some ds =>
        simp only [hd] at h
        -- the lists that are lent are given away first
        have frzd : ∀ {o : Option D} {Z : EO PV → Prop}, ∃ t : SS, t.e = frzAll (borS mi s.e ps) s.e ∧ t.H = s.H ∧ St1 R fx s t ∧ mSlot m ps t.e = some mi ∧ resL ps t.e = some ds ∧ ∀ i ∈ borS mi t.e ps, False := by
          intro o Z
          obtain ⟨t, h1, h2, h3⟩ := frzAll_ok (is := borS mi s.e ps) a (St1.refl a)
          refine ⟨t, h1, h2, h3, ?_, by rw [h1, resL_frz]; exact hd, ?_⟩
          · rw [h1]
            unfold mSlot at hm ⊢
            cases m with
            | none => exact hm
            | some j =>
              dsimp only at hm ⊢
              cases hp : ps[j]? with
              | none => simp only [hp] at hm; cases hm
              | some p =>
                cases p with
                | dat _ => simp only [hp] at hm; cases hm
                | fresh _ => simp only [hp] at hm; cases hm
                | pk i =>
                  simp only [hp] at hm ⊢
                  cases he : s.e[i]? with
                  | none => simp only [he] at hm; cases hm
                  | some c =>
                    cases c with
                    | no => simp only [he] at hm; cases hm
                    | val _ => simp only [he] at hm; cases hm
                    | own d =>
                      simp only [he] at hm
                      rw [frzAll_get, he]
                      have hn : i ∉ borS mi s.e ps := fun z => (borS_ne z).1 (Option.some.inj hm).symm
                      simp only [hn, if_false]
                      exact hm
          · have e0 : borS mi t.e ps = [] := borS_all (ps0 := ps) (e := s.e) (fun i hi d z => by
              rw [h1, frzAll_get] at z
              obtain ⟨_, d', hd'⟩ := borS_ne hi
              rw [hd'] at z
              simp [hi] at z) (fun i d z => by
              rw [h1, frzAll_get] at z
              cases he : s.e[i]? with
              | none => rw [he] at z; cases z
              | some c =>
                cases c with
                | no => rw [he] at z; cases z
                | val _ => rw [he] at z; cases z
                | own d' => exact ⟨d', rfl⟩) fun p hp => hp
            rw [e0]
            intro i hi
            cases hi
        cases hF : F ds with
        | bot => rw [hF] at h; exact h.elim
        | ret d o =>
          rw [hF] at h
          unfold callF aft at h
          dsimp only at h
          cases hk : (nolst d && nolstO o) with
          | true =>
            rw [hk, if_pos rfl] at h
            exact call_core a r hm ho hd (.inr (by rw [hF]; exact hk)) (by rw [hF]; exact h)
          | false =>
            rw [hk, if_neg Bool.false_ne_true] at h
            obtain ⟨t, t1, t2, t3, t4, t5, t6⟩ := frzd (o := o) (Z := fun _ => True)
            have z := call_core (F := F) (W := W) (Q := Q) t3.ab (SrL.step a t3 r) t4 ho t5 (.inl t6) (by rw [hF, t1]; exact EPost.later a t3 h)
            rw [t2, t3.eq] at z
            exact z
        | own d o =>
          rw [hF] at h
          unfold callF aft at h
          dsimp only at h
          cases hk : (nolstE d && nolstO o) with
          | true =>
            rw [hk, if_pos rfl] at h
            exact call_core a r hm ho hd (.inr (by rw [hF]; exact hk)) (by rw [hF]; exact h)
          | false =>
            rw [hk, if_neg Bool.false_ne_true] at h
            obtain ⟨t, t1, t2, t3, t4, t5, t6⟩ := frzd (o := o) (Z := fun _ => True)
            have z := call_core (F := F) (W := W) (Q := Q) t3.ab (SrL.step a t3 r) t4 ho t5 (.inl t6) (by rw [hF, t1]; exact EPost.later a t3 h)
            rw [t2, t3.eq] at z
            exact z
        | ex x o =>
          rw [hF] at h
          unfold callF aft at h
          dsimp only at h
          cases hk : (nolstN x.a && nolstO o) with
          | true =>
            rw [hk, if_pos rfl] at h
            exact call_core a r hm ho hd (.inr (by rw [hF]; exact hk)) (by rw [hF]; exact h)
          | false =>
            rw [hk, if_neg Bool.false_ne_true] at h
            obtain ⟨t, t1, t2, t3, t4, t5, t6⟩ := frzd (o := o) (Z := fun _ => True)
            have z := call_core (F := F) (W := W) (Q := Q) t3.ab (SrL.step a t3 r) t4 ho t5 (.inl t6) (by rw [hF, t1]; exact EPost.later a t3 h)
            rw [t2, t3.eq] at z
            exact z
    · rw [if_neg ho] at h
      exact h.elim
theorem eArgs_len : ∀ {fs : List F1} {e e' : DEnv} {ps : List PV}, eArgs fs e = .ok ps e' → ps.length = fs.length
  | [], _, _, _, h => by cases h; rfl
  | f :: fs, e, e', ps, h => by
    unfold eArgs at h
    cases q0 : f e with
    | ex x e => rw [q0] at h; cases h
    | bot => rw [q0] at h; cases h
    | ok p e1 =>
      rw [q0] at h
      dsimp only [EO.bind] at h
      cases q1 : eArgs fs e1 with
      | ex x e => rw [q1] at h; cases h
      | bot => rw [q1] at h; cases h
      | ok ps' e2 =>
        rw [q1] at h
        cases h
        simp [eArgs_len q1]
section
variable {X : Cx} {fx : List (Nat × V)} {W : WX} {pos : Pos} {a : Expr}
theorem de_call {x : Str} {p : Pos} {es : List Expr} {fs : List F1} {m : Option Nat} {F : Fn} {k np : Nat} {fa : Addr} {fd : FuncData} {ps : List Str} (G : FnOk X.prog X.w X.K X.mg X.base (L2N.CX X.prog X.w) k fa fd ps (spD (rc X) m np F)) (hr : Room k X.A) (hg : Gl X x) (hm : X.mg x = some (.ref fa))
    (hk : PySem.W.keepIn X.K (.ref fa) = true) (hb : Binds X.K fd ps []) (tk : L2N.Takes X W) (ha : DA X fx W (a :: es) (eArgs fs)) (hl : fs.length = np := by rfl) (hdb : (x == ("__debug__" : Str)) = false := by decide)
    (he : starEach (a :: es) X.env = (false, eval a X.env) :: starEach es X.env := by rfl) (hpl : (backTo pos (starEach es X.env)).any (·.1) = false := by rfl) : DE X fx W (.Call (.Name x p) (a :: es) [] pos) (eCall m F fs) := by
  refine PE.imp (pe_callS G hr hg hm hk hb (L2N.passAt tk) ha hdb he hpl) fun σ H Q q => ?_
  obtain ⟨e, A, a0, q⟩ := q
  refine ⟨e, A, a0, ((EPost.bnd a0 q).and (P := fun vs => vs.length = np) fun vs t ps e1 ho r => ?_).mono fun vs H1 ⟨⟨e1, A1, qs, x1, r1, h1, _⟩, hz⟩ => ?_⟩
  · rw [SrL.len r, eArgs_len ho]
    exact hl
  · have := call_post (s := ⟨σ, e1, A1, H1⟩) x1.ab r1 h1
    rw [hz] at this
    exact this
end
end DL

set_option Elab.async false
set_option linter.all false
set_option maxRecDepth 100000
namespace DL
open PySem PySem.Spec L2 PyProof.Rows

/-! ### what is owned is changed -/
theorem own_upd {R : RC} {fx : List (Nat × V)} {s : SS} {i : Nat} {l : Addr} {d d' : D} {ho' : HO} (a : Sa R fx s) (hi : s.e[i]? = some (.own d)) (hs : s.σ[i]? = some (some (.ref l))) (r : OwnR R (hid s.A s.H) d' ho') :
    St1 R fx s ⟨s.σ, s.e.set i (.own d'), s.A, upd s.H l ho'⟩ := by
  have hl := (List.getElem?_eq_some_iff.mp hi).1
  have ml : s.M l := ⟨i, d, hi, hs⟩
  have al : s.A l := a.sub l ml
  have hle : Le (hid s.A s.H) (hid s.A (upd s.H l ho')) := fun b o e => by
    obtain ⟨e1, e2⟩ := hid_some.mp e
    refine hid_some.mpr ⟨e1, ?_⟩
    rw [upd_ne (fun z => by subst z; exact e1 al)]
    exact e2
  have own' : ∀ {j : Nat} {c : D}, (s.e.set i (.own d'))[j]? = some (.own c) → ∃ c', s.e[j]? = some (.own c') := fun {j c} h => by
    rcases set_get h with ⟨rfl, _, _⟩ | ⟨_, h⟩
    · exact ⟨d, hi⟩
    · exact ⟨c, h⟩
  refine ⟨rfl, ⟨fun b o n e => ?_, fun b z => .inl z, fun b z => ?_, fun b z _ => z, fun b o e => ?_⟩, fun j c h => ?_, ?_⟩
  · show upd s.H l ho' b = _
    rw [upd_ne (fun z => by subst z; exact n ml)]
    exact e
  · obtain ⟨j, c, h1, h2⟩ := z
    obtain ⟨c', h3⟩ := own' h1
    exact .inl ⟨j, c', h3, h2⟩
  · by_cases hb : b = l
    · subst hb
      exact ⟨_, upd_same⟩
    · exact ⟨o, by show upd s.H l ho' b = _; rw [upd_ne hb]; exact e⟩
  · show ∃ d2, (s.e.set i (.own d'))[j]? = _ ∨ (s.e.set i (.own d'))[j]? = _
    by_cases hj : j = i
    · subst hj
      exact ⟨d', .inl (List.getElem?_set_self hl)⟩
    · exact ⟨c, by rw [List.getElem?_set_ne (Ne.symm hj)]; exact h⟩
  · refine ⟨by show s.σ.length = (s.e.set i (.own d')).length; rw [List.length_set]; exact a.len, a.fix, fun j c h => ?_, fun j c h => ?_, fun j k c c' b h1 h2 h3 h4 => ?_, fun b z => ?_⟩
    · rcases set_get h with ⟨_, _, z⟩ | ⟨_, h⟩
      · cases z
      · obtain ⟨v, q1, q2⟩ := a.val j c h
        exact ⟨v, q1, Rep.le hle _ _ q2⟩
    · rcases set_get h with ⟨rfl, _, z⟩ | ⟨hj, h'⟩
      · cases z
        exact ⟨l, ho', hs, al, upd_same, r.le hle⟩
      · obtain ⟨l', ho, q1, q2, q3, q4⟩ := a.own j c h'
        refine ⟨l', ho, q1, q2, ?_, q4.le hle⟩
        show upd s.H l ho' l' = _
        rw [upd_ne (fun z => hj (a.inj j i c d l h' hi (by rw [← z]; exact q1) hs))]
        exact q3
    · obtain ⟨c1, z1⟩ := own' h1
      obtain ⟨c2, z2⟩ := own' h2
      exact a.inj j k c1 c2 b z1 z2 h3 h4
    · by_cases hb : b = l
      · subst hb
        exact ⟨_, upd_same⟩
      · obtain ⟨o, e⟩ := a.dom b z
        exact ⟨o, by show upd s.H l ho' b = _; rw [upd_ne hb]; exact e⟩
section
variable {X : Cx} {fx : List (Nat × V)} {W : WX} {pos apos npos : Pos} {a : Expr}
/-- a list's method that changes it: by its items and the arguments, what it gives and the items behind it -/
def MetD (X : Cx) (id : String) (g : List D → List D → Option (D × List D)) : Prop := ∃ r : V → List V → Hp → VK → Prop, MtR X id r ∧
  ∀ (h H : Hp) (l : Addr) (xs ds ys : List D) (vs ws : List V) (d : D) (Q : VK), Le h H → H l = some (.lst vs) → RepL (rc X) h xs vs → RepL (rc X) h ds ws → g xs ds = some (d, ys) →
    (∀ v us, Rep (rc X) h d v → RepL (rc X) h ys us → Q v (upd H l (.lst us))) → r (.ref l) ws H Q
def eMet (i : Nat) (g : List D → List D → Option (D × List D)) (fs : List F1) : F1 := fun e => match e[i]? with
  | some (.own (.lst _)) => (eItems fs e).bind fun ds e1 => match e1[i]? with
    | some (.own (.lst xs)) => match g xs ds with
      | some (d, ys) => .ok (.dat d) (e1.set i (.own (.lst ys)))
      | none => .bot
    | _ => .bot
  | _ => .bot
theorem met_end {i : Nat} {g : List D → List D → Option (D × List D)} {r : V → List V → Hp → VK → Prop}
    (hq : ∀ (h H : Hp) (l : Addr) (xs ds ys : List D) (vs ws : List V) (d : D) (Q : VK), Le h H → H l = some (.lst vs) → RepL (rc X) h xs vs → RepL (rc X) h ds ws → g xs ds = some (d, ys) →
      (∀ v us, Rep (rc X) h d v → RepL (rc X) h ys us → Q v (upd H l (.lst us))) → r (.ref l) ws H Q)
    {s : SS} {ds : List D} {ws : List V} {l : Addr} {Q : VK} (a : Sa (rc X) fx s) (hs : s.σ[i]? = some (some (.ref l))) (rw' : RepL (rc X) (hid s.A s.H) ds ws)
    (h : EPost (RE (rc X) fx) W s Q (match s.e[i]? with
      | some (.own (.lst xs)) => match g xs ds with
        | some (d, ys) => .ok (.dat d) (s.e.set i (.own (.lst ys)))
        | none => .bot
      | _ => .bot)) : r (.ref l) ws s.H Q := by
  split at h
  · rename_i xs he
    split at h
    · rename_i d ys hg
      obtain ⟨l', ho, q1, q2, q3, vs, rfl, q4⟩ := a.own i _ he
      rw [hs] at q1
      cases q1
      refine hq (hid s.A s.H) s.H l xs ds ys vs ws d Q hid_le q3 q4 rw' hg fun v us rv ru => ?_
      have st := own_upd (ho' := .lst us) (d' := .lst ys) a he hs ⟨us, rfl, ru⟩
      exact h v ⟨s.σ, s.e.set i (.own (.lst ys)), s.A, upd s.H l (.lst us)⟩ rfl st ⟨Rep.le (st.nx.hid a) _ _ rv, trivial⟩
    · exact h.elim
  · exact h.elim
theorem own_tyV {s : SS} {i : Nat} {xs : List D} {l : Addr} (a : Sa (rc X) fx s) (he : s.e[i]? = some (.own (.lst xs))) (hs : s.σ[i]? = some (some (.ref l))) : tyV X.K "list" (.ref l) s.H := by
  obtain ⟨l', ho, q1, q2, q3, vs, rfl, q4⟩ := a.own i _ he
  rw [hs] at q1
  cases q1
  exact .inl ⟨rfl, vs, .inl (.inl q3)⟩
theorem de_met {i : Nat} {x name : Str} {id : String} {g : List D → List D → Option (D × List D)} {es : List Expr} {fs : List F1} (hm : MetD X id g) (slot : Slot "list" name id) (hty : typeOf (.builtin id) = pure (.type "method_descriptor")) (hN : X.N[i]? = some x) (hv : Vis X.env.scope x)
    (ha : DD X fx W (a :: es) (eItems fs)) (hbase : attributeBase (.Name x npos) name X.env (eval (.Name x npos) X.env) = eval (.Name x npos) X.env := by rfl)
    (hfew : ((backTo pos (starEach (a :: es) X.env)).all (fun x => !x.1) && (backToKw pos (keywordEach [] X.env)).all (fun x => x.1.isSome)
      && decide ((a :: es).length + ([] : List Keyword).length + (if ([] : List Keyword).isEmpty then 0 else 1) < 30)) = true := by rfl)
    (hline : (apos.endLine == pos.line) = true := by rfl) (hs : starEach (a :: es) X.env = (false, eval a X.env) :: starEach es X.env := by rfl) (hplain : (backTo pos (starEach es X.env)).any (·.1) = false := by rfl)
    (hd : (x == ("__debug__" : Str)) = false := by decide) (hcd : (x == ("__classdict__" : Str)) = false := by decide) :
    DE X fx W (.Call (.Attribute (.Name x npos) name apos) (a :: es) [] pos) (eMet i g fs) := by
  obtain ⟨r, hr, hq⟩ := hm
  refine PE.imp (pe_bm PySem.F.plainAttrs_list slot hty hr (pe_var hN hv hd hcd) ha hbase hfew hline hs hplain) fun σ H Q q => ?_
  obtain ⟨e, A, a0, q⟩ := q
  unfold eMet at q
  split at q
  · rename_i xs0 he
    obtain ⟨l, ho, q1, _⟩ := a0.own i _ he
    refine ⟨.ref l, q1, own_tyV a0 he q1, e, A, a0, (EPost.bnd a0 q).mono fun ws H1 ⟨e1, A1, ds, x1, r1, h1, _⟩ => ?_⟩
    exact met_end (s := ⟨σ, e1, A1, H1⟩) hq x1.ab q1 r1 h1
  · exact q.elim
theorem de_met0 {i : Nat} {x name : Str} {id : String} {g : List D → List D → Option (D × List D)} (hm : MetD X id g) (slot : Slot "list" name id) (hty : typeOf (.builtin id) = pure (.type "method_descriptor")) (hN : X.N[i]? = some x) (hv : Vis X.env.scope x)
    (hbase : attributeBase (.Name x npos) name X.env (eval (.Name x npos) X.env) = eval (.Name x npos) X.env := by rfl) (hline : (apos.endLine == pos.line) = true := by rfl)
    (hd : (x == ("__debug__" : Str)) = false := by decide) (hcd : (x == ("__classdict__" : Str)) = false := by decide) :
    DE X fx W (.Call (.Attribute (.Name x npos) name apos) [] [] pos) (eMet i g []) := by
  obtain ⟨r, hr, hq⟩ := hm
  refine PE.imp (pe_bm0 PySem.F.plainAttrs_list slot hty hr (pe_var hN hv hd hcd) hbase hline) fun σ H Q q => ?_
  obtain ⟨e, A, a0, q⟩ := q
  unfold eMet at q
  split at q
  · rename_i xs0 he
    obtain ⟨l, ho, q1, _⟩ := a0.own i _ he
    refine ⟨.ref l, q1, own_tyV a0 he q1, ?_⟩
    exact met_end (ds := []) (ws := []) (s := ⟨σ, e, A, H⟩) hq a0 q1 rfl q
  · exact q.elim
def appD : List D → List D → Option (D × List D)
  | xs, [d] => if xs.length < 1000000 then some (.non, xs ++ [d]) else none
  | _, _ => none
theorem md_append : MetD X "list.append" appD := by
  refine ⟨_, mt_append, ?_⟩
  intro h H l xs ds ys vs ws d Q hle hl rx rw' hg k
  unfold appD at hg
  split at hg
  · split at hg <;> cases hg
    rename_i hz
    obtain ⟨v, _, rfl, p, h0⟩ := rw'
    cases (show _ = _ from h0)
    refine ⟨l, vs, v, rfl, rfl, hl, by rw [RepL.length rx]; exact Nat.lt_of_lt_of_le hz (szle (Nat.le_refl _)), k .non _ rfl (rx.app (.one p))⟩
  · cases hg
def popD : List D → List D → Option (D × List D)
  | xs, [] => match xs[xs.length - 1]? with
    | some d => some (d, xs.dropLast)
    | none => none
  | _, _ => none
theorem RepL.dropLast {R : RC} {H : Hp} {ds : List D} {vs : List V} (r : RepL R H ds vs) : RepL R H ds.dropLast vs.dropLast := by
  rw [List.dropLast_eq_take, List.dropLast_eq_take, RepL.length r]
  exact r.take _
theorem md_pop : MetD X "list.pop" popD := by
  refine ⟨_, mt_pop, ?_⟩
  intro h H l xs ds ys vs ws d Q hle hl rx rw' hg k
  unfold popD at hg
  split at hg
  · split at hg <;> cases hg
    rename_i hd
    cases (show ws = [] from rw')
    obtain ⟨v, h1, h2⟩ := RepL.get rx hd
    exact ⟨l, vs, v, rfl, rfl, hl, by rw [RepL.length rx]; exact h1, k v _ h2 rx.dropLast⟩
  · cases hg
def insD : List D → List D → Option (D × List D)
  | xs, [.int i, d] => if xs.length < 1000000 ∧ 0 ≤ i ∧ i < 2 ^ 62 then some (.non, xs.take i.toNat ++ [d] ++ xs.drop i.toNat) else none
  | _, _ => none
theorem md_insert : MetD X "list.insert" insD := by
  refine ⟨_, mt_insert, ?_⟩
  intro h H l xs ds ys vs ws d Q hle hl rx rw' hg k
  unfold insD at hg
  split at hg
  · split at hg <;> cases hg
    rename_i hz
    obtain ⟨v, _, rfl, p, w, _, rfl, q, h0⟩ := rw'
    cases (show _ = _ from h0)
    cases (show v = .int _ from p)
    refine ⟨l, vs, _, w, rfl, rfl, hl, by rw [RepL.length rx]; exact Nat.lt_of_lt_of_le hz.1 (szle (Nat.le_refl _)), hz.2.1, by omega, k .non _ rfl (((rx.take _).app (.one q)).app (rx.drop _))⟩
  · cases hg
def clrD : List D → List D → Option (D × List D)
  | _, [] => some (.non, [])
  | _, _ => none
theorem md_clear : MetD X "list.clear" clrD := by
  refine ⟨_, mt_clear, ?_⟩
  intro h H l xs ds ys vs ws d Q hle hl rx rw' hg k
  unfold clrD at hg
  split at hg
  · cases hg
    cases (show ws = [] from rw')
    exact ⟨l, vs, rfl, rfl, hl, k .non _ rfl rfl⟩
  · cases hg

/-! ### x[i] = e -/
def sIx (i : Nat) (fi fv : F1) : FS := fun e => (fv e).bindS fun p e1 => match frz p e1 with
  | some (d, e2) => match e2[i]? with
    | some (.own (.lst _)) => (fi e2).bindS fun q e3 => match q, e3[i]? with
      | .dat (.int k), some (.own (.lst xs)) => match ixN xs.length k with
        | some j => .nx (e3.set i (.own (.lst (xs.set j d))))
        | none => .bot
      | _, _ => .bot
    | _ => .bot
  | none => .bot
theorem ds_ix {i : Nat} {x : Str} {ie ve : Expr} {p1 p2 : Pos} {fi fv : F1} (hN : X.N[i]? = some x) (hv : Vis X.env.scope x) (hi : DE X fx W ie fi) (hve : DE X fx W ve fv)
    (ha : ∀ v, assign (.Subscript (.Name x p1) ie p2) X.env v = (do
      let ov ← holding [v] (eval (.Name x p1) X.env)
      let iv ← holding [v, ov] (eval ie X.env)
      standAt p2
      holding [v, ov, iv] (setItem ov iv v)
      release [v, ov, iv] []) := by intro _; rfl)
    (hs : swapsWithSole [.Subscript (.Name x p1) ie p2] ve pos.line X.env = pure false := by rfl) (hw : swappedStores [.Subscript (.Name x p1) ie p2] ve X.env = pure none := by rfl)
    (h1 : (assignEach [.Subscript (.Name x p1) ie p2] X.env).map (·.2) = [assign (.Subscript (.Name x p1) ie p2) X.env] := by rfl) (hd : (x == ("__debug__" : Str)) = false := by decide) (hcd : (x == ("__classdict__" : Str)) = false := by decide) :
    DS X fx W (.Assign [.Subscript (.Name x p1) ie p2] ve pos) (sIx i fi fv) := PS.imp (ps_asg hve (pg_sub (pe_var hN hv hd hcd) hi set_list ha) hs hw h1) fun D σ H q => by
  obtain ⟨e, A, a0, q⟩ := q
  refine ⟨e, A, a0, (SPost.bnd a0 q).mono fun v H1 ⟨e1, A1, p, x1, r1, _, h1⟩ => ?_⟩
  cases hp : frz p e1 with
  | none => simp only [hp] at h1; exact h1.elim
  | some z =>
    obtain ⟨d, e2⟩ := z
    simp only [hp] at h1
    obtain ⟨⟨σ2, e2', A2, H2⟩, rfl, rfl, x2, rd⟩ := frz_ok (s := ⟨σ, e1, A1, H1⟩) a0 x1 r1.1 r1.2 hp
    obtain rfl : σ2 = σ := x2.eq
    have h2 := SPost.later a0 x2.st2 h1
    split at h2
    · rename_i xs0 he
      obtain ⟨l, ho, q1, _⟩ := x2.ab.own i _ he
      refine ⟨.ref l, q1, e2', A2, x2.ab, (SPost.bnd x2.ab h2).mono fun y H3 ⟨e3, A3, q3, x3, r3, h3, _⟩ => ?_⟩
      have h3' : ∃ k xs j, q3 = .dat (.int k) ∧ e3[i]? = some (.own (.lst xs)) ∧ ixN xs.length k = some j ∧ SPost (rc X) fx W D ⟨σ2, e3, A3, H3⟩ (.nx (e3.set i (.own (.lst (xs.set j d))))) := by
        split at h3
        · split at h3
          · exact ⟨_, _, _, rfl, by assumption, by assumption, h3⟩
          · exact h3.elim
        · exact h3.elim
      obtain ⟨k, xs, j, rfl, he3, hj, h4⟩ := h3'
      · · obtain ⟨l', ho', z1, z2, z3, vs, rfl, z4⟩ := x3.ab.own i _ he3
          rw [q1] at z1
          cases z1
          have rv := Rep.le (x3.nx.hid x2.ab) _ _ rd
          have st := own_upd (ho' := .lst (vs.set j v)) (d' := .lst (xs.set j d)) x3.ab he3 q1 ⟨_, rfl, z4.set rv j⟩
          exact ⟨l, vs, k, j, rfl, r3.1, z3, by rw [RepL.length z4]; exact hj, h4 ⟨σ2, _, A3, _⟩ rfl st.st2⟩
    · exact h2.elim
end
end DL

set_option Elab.async false
set_option linter.all false
set_option maxRecDepth 100000
namespace DL
open PySem PySem.Spec L2 PyProof.Rows
theorem bt_len : bootBuiltins "len" = some (.builtin "len") := by decide +kernel
theorem bt_abs : bootBuiltins "abs" = some (.builtin "abs") := by decide +kernel
theorem bt_all : bootBuiltins "all" = some (.builtin "all") := by decide +kernel
theorem bt_sum : bootBuiltins "sum" = some (.builtin "sum") := by decide +kernel
theorem bt_min : bootBuiltins "min" = some (.builtin "min") := by decide +kernel
theorem bt_max : bootBuiltins "max" = some (.builtin "max") := by decide +kernel
theorem bt_isinstance : bootBuiltins "isinstance" = some (.builtin "isinstance") := by decide +kernel
theorem bt_int : bootBuiltins "int" = some (.type "int") := by decide +kernel
theorem bt_str : bootBuiltins "str" = some (.type "str") := by decide +kernel
theorem bt_bool : bootBuiltins "bool" = some (.type "bool") := by decide +kernel
theorem bt_list : bootBuiltins "list" = some (.type "list") := by decide +kernel
theorem bt_tuple : bootBuiltins "tuple" = some (.type "tuple") := by decide +kernel
theorem bt_dict : bootBuiltins "dict" = some (.type "dict") := by decide +kernel
theorem hu65 {k : Nat} {A : Around} (r : Room k A) : A.units + 65 < cLine := by
  have := r.un
  omega
section
variable {X : Cx} {fx : List (Nat × V)} {W : WX} {pos : Pos} {a : Expr} {f : F1}
def eNeg (f : F1) : F1 := fun e => (f e).bind fun p e1 => match p with
  | .dat (.int i) => .ok (.dat (.int (-i))) e1
  | _ => .bot
theorem de_neg (ha : DE X fx W a f) : DE X fx W (.UnaryOp .USub a pos) (eNeg f) := PE.imp (pe_un un_neg ha) fun σ H Q q => by
  obtain ⟨e, A, a0, q⟩ := q
  refine ⟨e, A, a0, (EPost.bnd a0 q).mono fun x H1 ⟨e1, A1, p, x1, r1, h1, _⟩ => ?_⟩
  dsimp only at h1
  split at h1
  · exact ⟨_, r1.1, h1 (.int _) _ rfl (.refl x1.ab) ⟨rfl, trivial⟩⟩
  · exact h1.elim
end
/-- the law's own promise, from its function on data -/
theorem law_sp {K : PySem.W.Frag} {mg : Str → Option Value} {F : Fn} {H : Hp} {a : Addr} {ns : List Int} (hR : LsR K H a (ns.map V.int)) (hF : F [.lst (ns.map D.int)] = .ret (.bl true) none) :
    spD ⟨K, mg⟩ none 1 F [.ref a] H (fun v _ => v = .bl true) (fun _ _ _ => False) := by
  refine ⟨[.lst (ns.map D.int)], fun _ => False, rfl, rfl, ⟨fun i d h _ => ?_, fun j d h => (nomatch h), fun b h => h.elim, fun j h => (nomatch h)⟩, ?_⟩
  · cases i with
    | zero =>
      simp at h
      subst h
      have hr : ∀ l : List Int, RepL ⟨K, mg⟩ (hid (fun _ => False) H) (l.map D.int) (l.map V.int) := fun l => by
        induction l with
        | nil => exact rfl
        | cons x l ih => exact ⟨_, _, rfl, rfl, ih⟩
      exact ⟨_, rfl, a, _, rfl, LsR.le (fun b o e => hid_some.mpr ⟨fun z => z, e⟩) hR, hr ns⟩
    | succ i => simp at h
  · rw [hF]
    intro v A' H' _ _ r
    exact r
/-- where the law's def stands: the way from the head to a statement on data -/
theorem dl_walk {l : PySem.W.OpenLaw} {k : Nat} {q : Program} {loose : List Str} {XP : (Str → Option Value) → Heap → Prop} {YP : World → Heap → Prop} {d : DefRec} {K : Params → PySem.W.Frag} {x : Str} (F : Fn)
    (hm : l.most = some 63) (h0 : d.params.defaults = []) (room : Room k callerA) (inK : ∀ (w : World) (h : Heap), YP w h → (K w.params).In h)
    (law : ∀ ns : List Int, ns.length ≤ 63 → F [.lst (ns.map D.int)] = .ret (.bl true) none)
    (G : ∀ (w : World) (mg : Str → Option Value) (fa : Addr) (h : Heap), (K w.params).In h → h.Ns mainGlobals mg → mg d.name = some (.ref fa) →
      ∃ fd : FuncData, (∀ (s : Shared) (u : Value), BindsTo s fd ⟨[u], []⟩ [(x, u)]) ∧ ∀ base : Heap, FnOk l.prog w (K w.params) mg base (L2N.CX l.prog w) k fa fd [x] (spD ⟨K w.params, mg⟩ none 1 F)) :
    PySem.W.WalkO q loose XP YP l.row.toRowW d [] (fun f vs => PySem.call f vs) := by
  refine Att.attach_call hm h0 fun w s₀ s₁ mg mb fa o pm cd doc a vs ns g y _ _ _ q1 q2 q3 q4 q5 => ?_
  have z := inK w _ y
  obtain ⟨fd, b, f⟩ := G w mg fa _ z g.T.g q1
  have wide : ns.length ≤ sizeLine := Nat.le_trans q4 (by decide)
  refine law_call z g.T.g g.T.b g.T.builtins g.T.nolimit q5 q2 q3 wide room (fun base _ _ => f base) b (fun H _ hS => law_sp (K := K w.params) ?_ (law ns q4)) fun H e s' ⟨_, _, _, _, _, _, _, _, _, _, _, _, no⟩ => no
  rcases hS with hS | ⟨ob, its, n, hk, _, _, hd, hz, r⟩
  · exact .inl hS
  · have e := z a ob hk
    rw [q2] at e
    cases e
    cases hd
    exact .inr ⟨vs, _, hk, by simpa using hz, by simpa using r⟩
end DL

set_option Elab.async false
set_option linter.all false
set_option maxRecDepth 100000
/-! The data layer: reckoning. Each construct told by what comes next, so that simp goes from left to right. -/
namespace DL
open PySem PySem.Spec L2
theorem k_bind_ok {α β : Type} (a : α) (e : DEnv) (k : α → DEnv → EO β) : (EO.ok a e).bind k = k a e := rfl
theorem k_bind_ex {α β : Type} (x : Exn) (e : DEnv) (k : α → DEnv → EO β) : (EO.ex x e : EO α).bind k = .ex x e := rfl
theorem k_bind_bot {α β : Type} (k : α → DEnv → EO β) : (EO.bot : EO α).bind k = .bot := rfl
theorem k_bindS_ok {α : Type} (a : α) (e : DEnv) (k : α → DEnv → SO) : (EO.ok a e).bindS k = k a e := rfl
theorem k_bindS_ex {α : Type} (x : Exn) (e : DEnv) (k : α → DEnv → SO) : (EO.ex x e : EO α).bindS k = .ex x e := rfl
theorem k_bindS_bot {α : Type} (k : α → DEnv → SO) : (EO.bot : EO α).bindS k = .bot := rfl
section
variable (f g h : F1) (e : DEnv) (fs : List F1)
-- names
def look (i : Nat) (e : DEnv) (c : Option Cell) : EO PV := match c with
  | some (.val d) => .ok (.dat d) e
  | some (.own _) => .ok (.pk i) e
  | _ => .bot
theorem k_var (i : Nat) : eVar i e = look i e e[i]? := rfl
theorem k_look_val (i : Nat) (d : D) : look i e (some (.val d)) = .ok (.dat d) e := rfl
theorem k_look_own (i : Nat) (d : D) : look i e (some (.own d)) = .ok (.pk i) e := rfl
theorem k_look_no (i : Nat) : look i e (some .no) = .bot := rfl
theorem k_C (d : D) : eC d e = .ok (.dat d) e := rfl
-- frz, res
def frzC (i : Nat) (e : DEnv) (c : Option Cell) : Option (D × DEnv) := match c with
  | some (.own d) => some (d, e.set i (.val d))
  | some (.val d) => some (d, e)
  | _ => none
theorem k_frz_dat (d : D) : frz (.dat d) e = some (d, e) := rfl
theorem k_frz_fresh (d : D) : frz (.fresh d) e = some (d, e) := rfl
theorem k_frz_pk (i : Nat) : frz (.pk i) e = frzC i e e[i]? := rfl
theorem k_frzC_own (i : Nat) (d : D) : frzC i e (some (.own d)) = some (d, e.set i (.val d)) := rfl
theorem k_frzC_val (i : Nat) (d : D) : frzC i e (some (.val d)) = some (d, e) := rfl
def resC (c : Option Cell) : Option D := match c with
  | some (.own d) => some d
  | some (.val d) => some d
  | _ => none
theorem k_res_dat (d : D) : res (.dat d) e = some d := rfl
theorem k_res_fresh (d : D) : res (.fresh d) e = some d := rfl
theorem k_res_pk (i : Nat) : res (.pk i) e = resC e[i]? := rfl
theorem k_resC_own (d : D) : resC (some (.own d)) = some d := rfl
theorem k_resC_val (d : D) : resC (some (.val d)) = some d := rfl
def consO (d : D) (o : Option (List D)) : Option (List D) := match o with
  | some ds => some (d :: ds)
  | none => none
def resLO (ps : List PV) (e : DEnv) (o : Option D) : Option (List D) := match o with
  | some d => consO d (resL ps e)
  | none => none
theorem k_resL_nil : resL [] e = some [] := rfl
theorem k_resL_cons (p : PV) (ps : List PV) : resL (p :: ps) e = resLO ps e (res p e) := by
  unfold resL resLO consO
  cases res p e with
  | none => rfl
  | some d => cases resL ps e <;> rfl
theorem k_resLO (ps : List PV) (d : D) : resLO ps e (some d) = consO d (resL ps e) := rfl
theorem k_consO (d : D) (ds : List D) : consO d (some ds) = some (d :: ds) := rfl
-- displays
def itO (fs : List F1) (o : Option (D × DEnv)) : EO (List D) := match o with
  | some (d, e2) => (eItems fs e2).bind fun ds e3 => .ok (d :: ds) e3
  | none => .bot
def itK (fs : List F1) (p : PV) (e : DEnv) : EO (List D) := itO fs (frz p e)
def itC (d : D) (ds : List D) (e : DEnv) : EO (List D) := .ok (d :: ds) e
theorem k_items_nil : eItems [] e = .ok [] e := rfl
theorem k_items_cons : eItems (f :: fs) e = (f e).bind (itK fs) := by
  rw [eItems]
  congr 1
theorem k_itK (p : PV) : itK fs p e = itO fs (frz p e) := rfl
theorem k_itO (d : D) : itO fs (some (d, e)) = (eItems fs e).bind (itC d) := rfl
theorem k_itC (d : D) (ds : List D) : itC d ds e = .ok (d :: ds) e := rfl
def tupK (ds : List D) (e : DEnv) : EO PV := .ok (.dat (.tup ds)) e
def lstK (ds : List D) (e : DEnv) : EO PV := .ok (.fresh (.lst ds)) e
theorem k_tup : eTup fs e = (eItems fs e).bind tupK := rfl
theorem k_tupK (ds : List D) : tupK ds e = .ok (.dat (.tup ds)) e := rfl
theorem k_lst : eLst fs e = (eItems fs e).bind lstK := rfl
theorem k_lstK (ds : List D) : lstK ds e = .ok (.fresh (.lst ds)) e := rfl
theorem k_dct0 : eDct0 e = .ok (.fresh (.dct [] [])) e := rfl
-- operations
def oPV (e : DEnv) (o : Option PV) : EO PV := match o with
  | some r => .ok r e
  | none => .bot
def pOpO (g : D → D → Option PV) (e : DEnv) (a b : Option D) : EO PV := match a, b with
  | some x, some y => oPV e (g x y)
  | _, _ => .bot
def opK2 (g : D → D → Option PV) (p q : PV) (e : DEnv) : EO PV := pOpO g e (res p e) (res q e)
def opK (g : D → D → Option PV) (h : F1) (p : PV) (e : DEnv) : EO PV := (h e).bind (opK2 g p)
theorem pOp_is (g : D → D → Option PV) (p q : PV) : pOp g p q e = pOpO g e (res p e) (res q e) := by
  unfold pOp pOpO oPV
  cases res p e <;> cases res q e <;> rfl
theorem k_op (g : D → D → Option PV) : eOp g f h e = (f e).bind (opK g h) := by
  unfold eOp opK opK2
  congr 1
theorem k_opK (g : D → D → Option PV) (p : PV) : opK g h p e = (h e).bind (opK2 g p) := rfl
theorem k_opK2 (g : D → D → Option PV) (p q : PV) : opK2 g p q e = pOpO g e (res p e) (res q e) := rfl
theorem k_pOp (g : D → D → Option PV) (p q : PV) : pOp g p q e = pOpO g e (res p e) (res q e) := pOp_is e g p q
theorem k_pOpO (g : D → D → Option PV) (a b : D) : pOpO g e (some a) (some b) = oPV e (g a b) := rfl
theorem k_oPV (r : PV) : oPV e (some r) = .ok r e := rfl
theorem k_oPV_if {c : Prop} [Decidable c] (a b : Option PV) : oPV e (if c then a else b) = if c then oPV e a else oPV e b := by split <;> rfl
theorem k_oPV_none : oPV e none = .bot := rfl
def negK (p : PV) (e : DEnv) : EO PV := match p with
  | .dat (.int i) => .ok (.dat (.int (-i))) e
  | _ => .bot
theorem k_neg : eNeg f e = (f e).bind negK := rfl
theorem k_negK (i : Int) : negK (.dat (.int i)) e = .ok (.dat (.int (-i))) e := rfl
-- and, or, not, if
def andK (g : F1) (p : PV) (e : DEnv) : EO PV := match pB p with
  | some true => g e
  | some false => .ok (.dat (.bl false)) e
  | none => .bot
def orK (g : F1) (p : PV) (e : DEnv) : EO PV := match pB p with
  | some true => .ok (.dat (.bl true)) e
  | some false => g e
  | none => .bot
def notK (p : PV) (e : DEnv) : EO PV := match pB p with
  | some k => .ok (.dat (.bl (!k))) e
  | none => .bot
def tofK (p : PV) (e : DEnv) : EO Bool := match pB p with
  | some k => .ok k e
  | none => .bot
theorem k_and : eAnd f g e = (f e).bind (andK g) := rfl
theorem k_andK (b : Bool) : andK g (.dat (.bl b)) e = if b = true then g e else .ok (.dat (.bl false)) e := by cases b <;> rfl
theorem k_or : eOr f g e = (f e).bind (orK g) := rfl
theorem k_orK (b : Bool) : orK g (.dat (.bl b)) e = if b = true then .ok (.dat (.bl true)) e else g e := by cases b <;> rfl
theorem k_not : eNot f e = (f e).bind notK := rfl
theorem k_notK (b : Bool) : notK (.dat (.bl b)) e = .ok (.dat (.bl (!b))) e := rfl
theorem k_tof : tOf f e = (f e).bind tofK := rfl
theorem k_tofK (b : Bool) : tofK (.dat (.bl b)) e = .ok b e := rfl
def tandK (g : FB) (b : Bool) (e : DEnv) : EO Bool := match b with
  | true => g e
  | false => .ok false e
def torK (g : FB) (b : Bool) (e : DEnv) : EO Bool := match b with
  | true => .ok true e
  | false => g e
def tnotK (b : Bool) (e : DEnv) : EO Bool := .ok (!b) e
variable (s t : FB)
theorem k_tand : tAndB s t e = (s e).bind (tandK t) := rfl
theorem k_tandK (b : Bool) : tandK t b e = if b = true then t e else .ok false e := by cases b <;> rfl
theorem k_tor : tOrB s t e = (s e).bind (torK t) := rfl
theorem k_torK (b : Bool) : torK t b e = if b = true then .ok true e else t e := by cases b <;> rfl
theorem k_tnot : tNotB s e = (s e).bind tnotK := rfl
theorem k_tnotK (b : Bool) : tnotK b e = .ok (!b) e := rfl
theorem k_ttrue : tTrue e = .ok true e := rfl
def ifK (f g : F1) (b : Bool) (e : DEnv) : EO PV := match b with
  | true => f e
  | false => g e
theorem k_if : eIf t f g e = (t e).bind (ifK f g) := rfl
theorem k_ifK (b : Bool) : ifK f g b e = if b = true then f e else g e := by cases b <;> rfl
-- chains
def ch3 (g2 : D → D → Option PV) (q : PV) (w : PV) (e : DEnv) : EO PV := pOpO g2 e (res q e) (res w e)
def ch2 (g2 : D → D → Option PV) (h : F1) (q : PV) (z : PV) (e : DEnv) : EO PV := match pB z with
  | some true => (h e).bind (ch3 g2 q)
  | some false => .ok (.dat (.bl false)) e
  | none => .bot
def ch1 (g1 g2 : D → D → Option PV) (h : F1) (p q : PV) (e : DEnv) : EO PV := (pOpO g1 e (res p e) (res q e)).bind (ch2 g2 h q)
def ch0 (g1 g2 : D → D → Option PV) (g h : F1) (p : PV) (e : DEnv) : EO PV := (g e).bind (ch1 g1 g2 h p)
theorem k_chain (g1 g2 : D → D → Option PV) : eChain g1 g2 f g h e = (f e).bind (ch0 g1 g2 g h) := by
  unfold eChain ch0 ch1 ch2 ch3
  congr 1
theorem k_ch0 (g1 g2 : D → D → Option PV) (p : PV) : ch0 g1 g2 g h p e = (g e).bind (ch1 g1 g2 h p) := rfl
theorem k_ch1 (g1 g2 : D → D → Option PV) (p q : PV) : ch1 g1 g2 h p q e = (pOpO g1 e (res p e) (res q e)).bind (ch2 g2 h q) := rfl
theorem k_ch2 (g2 : D → D → Option PV) (q : PV) (b : Bool) : ch2 g2 h q (.dat (.bl b)) e = if b = true then (h e).bind (ch3 g2 q) else .ok (.dat (.bl false)) e := by cases b <;> rfl
theorem k_ch3 (g2 : D → D → Option PV) (q w : PV) : ch3 g2 q w e = pOpO g2 e (res q e) (res w e) := rfl
-- slices
def psK (p : PV) (e : DEnv) : EO (Option Int) := match p with
  | .dat (.int i) => .ok (some i) e
  | _ => .bot
theorem k_pNone : pNone e = .ok none e := rfl
theorem k_pSome : pSome f e = (f e).bind psK := rfl
theorem k_psK (i : Int) : psK (.dat (.int i)) e = .ok (some i) e := rfl
def slO (lo hi : Option Int) (e : DEnv) (o : Option D) : EO PV := match o with
  | some d => oPV e (slD d lo hi)
  | none => .bot
def sl3 (p : PV) (lo hi : Option Int) (e : DEnv) : EO PV := slO lo hi e (res p e)
def sl2 (u : FO) (p : PV) (lo : Option Int) (e : DEnv) : EO PV := (u e).bind (sl3 p lo)
def sl1 (l u : FO) (p : PV) (e : DEnv) : EO PV := (l e).bind (sl2 u p)
theorem k_sl (l u : FO) : eSl f l u e = (f e).bind (sl1 l u) := by
  unfold eSl sl1 sl2 sl3 slO oPV
  rfl
theorem k_sl1 (l u : FO) (p : PV) : sl1 l u p e = (l e).bind (sl2 u p) := rfl
theorem k_sl2 (u : FO) (p : PV) (lo : Option Int) : sl2 u p lo e = (u e).bind (sl3 p lo) := rfl
theorem k_sl3 (p : PV) (lo hi : Option Int) : sl3 p lo hi e = slO lo hi e (res p e) := rfl
theorem k_slO (d : D) (lo hi : Option Int) : slO lo hi e (some d) = oPV e (slD d lo hi) := rfl
-- calls
def arC (p : PV) (ps : List PV) (e : DEnv) : EO (List PV) := .ok (frzF p :: ps) e
def arK (fs : List F1) (p : PV) (e : DEnv) : EO (List PV) := (eArgs fs e).bind (arC p)
theorem k_args_nil : eArgs [] e = .ok [] e := rfl
theorem k_args_cons : eArgs (f :: fs) e = (f e).bind (arK fs) := rfl
theorem k_arK (p : PV) : arK fs p e = (eArgs fs e).bind (arC p) := rfl
theorem k_arC (p : PV) (ps : List PV) : arC p ps e = .ok (frzF p :: ps) e := rfl
theorem k_frzF_dat (d : D) : frzF (.dat d) = .dat d := rfl
theorem k_frzF_fresh (d : D) : frzF (.fresh d) = .dat d := rfl
theorem k_frzF_pk (i : Nat) : frzF (.pk i) = .pk i := rfl
def cbO (g : List D → Option PV) (e : DEnv) (o : Option (List D)) : EO PV := match o with
  | some ds => oPV e (g ds)
  | none => .bot
def cbK (g : List D → Option PV) (ps : List PV) (e : DEnv) : EO PV := cbO g e (resL ps e)
theorem k_callB (gg : List D → Option PV) : eCallB gg fs e = (eArgs fs e).bind (cbK gg) := by
  unfold eCallB cbK cbO oPV
  rfl
theorem k_cbK (gg : List D → Option PV) (ps : List PV) : cbK gg ps e = cbO gg e (resL ps e) := rfl
theorem k_cbO (gg : List D → Option PV) (ds : List D) : cbO gg e (some ds) = oPV e (gg ds) := rfl
def isK (T : String) (p : PV) (e : DEnv) : EO PV := match res p e with
  | some d => match isiB T d with
    | some b => .ok (.dat (.bl b)) e
    | none => .bot
  | none => .bot
def isO (e : DEnv) (o : Option Bool) : EO PV := match o with
  | some b => .ok (.dat (.bl b)) e
  | none => .bot
def isDD (T : String) (e : DEnv) (o : Option D) : EO PV := match o with
  | some d => isO e (isiB T d)
  | none => .bot
theorem k_isi (T : String) : eIsiB T f e = (f e).bind (isK T) := rfl
theorem k_isK (T : String) (p : PV) : isK T p e = isDD T e (res p e) := by
  unfold isK isDD isO
  cases res p e with
  | none => rfl
  | some d => cases isiB T d <;> rfl
theorem k_isDD (T : String) (d : D) : isDD T e (some d) = isO e (isiB T d) := rfl
theorem k_isO (b : Bool) : isO e (some b) = .ok (.dat (.bl b)) e := rfl
theorem k_bind_if {α β : Type} {c : Prop} [Decidable c] (a b : EO α) (k : α → DEnv → EO β) : (if c then a else b).bind k = if c then a.bind k else b.bind k := by split <;> rfl
theorem k_bindS_if {α : Type} {c : Prop} [Decidable c] (a b : EO α) (k : α → DEnv → SO) : (if c then a else b).bindS k = if c then a.bindS k else b.bindS k := by split <;> rfl
theorem k_merge_and (b c : Bool) : (if b = true then EO.ok (.dat (.bl c)) e else EO.ok (.dat (.bl false)) e : EO PV) = .ok (.dat (.bl (b && c))) e := by cases b <;> rfl
theorem k_merge_or (b c : Bool) : (if b = true then EO.ok (.dat (.bl true)) e else EO.ok (.dat (.bl c)) e : EO PV) = .ok (.dat (.bl (b || c))) e := by cases b <;> rfl
theorem k_merge_tand (b c : Bool) : (if b = true then EO.ok c e else EO.ok false e : EO Bool) = .ok (b && c) e := by cases b <;> rfl
theorem k_merge_tor (b c : Bool) : (if b = true then EO.ok true e else EO.ok c e : EO Bool) = .ok (b || c) e := by cases b <;> rfl
-- a call
def aftE (k : Bool) (l : List Nat) (e : DEnv) : DEnv := if k = true then e else frzAll l e
theorem k_aft_nil (k : Bool) : aftE k [] e = e := by cases k <;> rfl
theorem k_aft_true (l : List Nat) : aftE true l e = e := rfl
theorem k_aft_false (l : List Nat) : aftE false l e = frzAll l e := rfl
theorem okA_none : ∀ (ps : List PV) (k : Nat), (∀ p ∈ ps, ∀ d, p ≠ .fresh d) → okA none none k ps = true
  | [], k, _ => rfl
  | p :: ps, k, h => by
    unfold okA
    rw [okA_none ps (k + 1) fun q hq => h q (List.mem_cons_of_mem _ hq)]
    cases p with
    | dat d => rfl
    | fresh d => exact (h _ List.mem_cons_self d rfl).elim
    | pk i => rfl
def nfr : List PV → Bool
  | [] => true
  | .fresh _ :: _ => false
  | _ :: ps => nfr ps
theorem nfr_nil : nfr [] = true := rfl
theorem nfr_dat (d : D) (ps : List PV) : nfr (.dat d :: ps) = nfr ps := rfl
theorem nfr_pk (i : Nat) (ps : List PV) : nfr (.pk i :: ps) = nfr ps := rfl
theorem nfr_is : ∀ {ps : List PV}, nfr ps = true → ∀ p ∈ ps, ∀ d, p ≠ .fresh d
  | [], _, p, hp, d => by simp at hp
  | .dat x :: ps, h, p, hp, d => by
    rcases List.mem_cons.mp hp with z | z
    · rw [z]; exact fun q => nomatch q
    · exact nfr_is (ps := ps) h p z d
  | .pk x :: ps, h, p, hp, d => by
    rcases List.mem_cons.mp hp with z | z
    · rw [z]; exact fun q => nomatch q
    · exact nfr_is (ps := ps) h p z d
def callE (ps : List PV) (e : DEnv) (o : FOut) : EO PV := match o with
  | .ret d o => .ok (.dat d) (putM none o (aftE (nolst d && nolstO o) (borS none e ps) e))
  | .own d o => .ok (.fresh d) (putM none o (aftE (nolstE d && nolstO o) (borS none e ps) e))
  | .ex x o => .ex x (putM none o (aftE (nolstN x.a && nolstO o) (borS none e ps) e))
  | .bot => .bot
def callO (F : Fn) (ps : List PV) (e : DEnv) (o : Option (List D)) : EO PV := match o with
  | some ds => callE ps e (F ds)
  | none => .bot
theorem k_call0 (F : Fn) : eCall none F fs e = (eArgs fs e).bind (callR none F) := rfl
def callN (F : Fn) (ps : List PV) (e : DEnv) (b : Bool) : EO PV := if b = true then callO F ps e (resL ps e) else .bot
theorem k_callR (F : Fn) (ps : List PV) : nfr ps = true → callR none F ps e = callO F ps e (resL ps e) := fun h => by
  unfold callR mSlot
  dsimp only
  rw [okA_none ps 0 (nfr_is h), if_pos rfl]
  unfold callO callE
  cases resL ps e with
  | none => rfl
  | some ds =>
    dsimp only
    cases F ds <;> rfl
def callB (F : Fn) (ps : List PV) (e : DEnv) (b : Bool) : EO PV := if b = true then callO F ps e (resL ps e) else callR none F ps e
theorem k_callR0 (F : Fn) (ps : List PV) : callR none F ps e = callB F ps e (nfr ps) := by
  unfold callB
  split
  · rename_i h; exact k_callR e F ps h
  · rfl
theorem k_callB1 (F : Fn) (ps : List PV) : callB F ps e true = callO F ps e (resL ps e) := rfl
theorem k_callO (F : Fn) (ps : List PV) (ds : List D) : callO F ps e (some ds) = callE ps e (F ds) := rfl
theorem k_callE_ret (ps : List PV) (d : D) : callE ps e (.ret d none) = .ok (.dat d) (aftE (nolst d) (borS none e ps) e) := by unfold callE putM nolstO; simp
theorem k_callE_own (ps : List PV) (d : D) : callE ps e (.own d none) = .ok (.fresh d) (aftE (nolstE d) (borS none e ps) e) := by unfold callE putM nolstO; simp
theorem k_callE_ex (ps : List PV) (x : Exn) : callE ps e (.ex x none) = .ex x (aftE (nolstN x.a) (borS none e ps) e) := by unfold callE putM nolstO; simp
theorem k_callE_if {c : Prop} [Decidable c] (ps : List PV) (a b : FOut) : callE ps e (if c then a else b) = if c then callE ps e a else callE ps e b := by split <;> rfl
theorem k_bor_nil : borS none e [] = [] := rfl
theorem k_bor_dat (d : D) (ps : List PV) : borS none e (.dat d :: ps) = borS none e ps := rfl
def borC (i : Nat) (l : List Nat) (c : Option Cell) : List Nat := match c with
  | some (.own _) => i :: l
  | _ => l
theorem k_bor_pk (i : Nat) (ps : List PV) : borS none e (.pk i :: ps) = borC i (borS none e ps) e[i]? := by
  unfold borC
  rw [borS]
  simp only [reduceCtorEq, if_false]
  all_goals (cases e[i]? with | none => rfl | some c => cases c <;> rfl)
theorem k_borC_own (i : Nat) (l : List Nat) (d : D) : borC i l (some (.own d)) = i :: l := rfl
theorem k_borC_val (i : Nat) (l : List Nat) (d : D) : borC i l (some (.val d)) = l := rfl
theorem k_frzAll_nil : frzAll [] e = e := rfl
theorem k_frzAll_cons (i : Nat) (l : List Nat) : frzAll (i :: l) e = frzAll l (frzAt i e) := rfl
def frzAtC (i : Nat) (e : DEnv) (c : Option Cell) : DEnv := match c with
  | some (.own d) => e.set i (.val d)
  | _ => e
theorem k_frzAt (i : Nat) : frzAt i e = frzAtC i e e[i]? := rfl
theorem k_frzAtC_own (i : Nat) (d : D) : frzAtC i e (some (.own d)) = e.set i (.val d) := rfl
theorem k_frzAtC_val (i : Nat) (d : D) : frzAtC i e (some (.val d)) = e := rfl
-- statements
variable (F G : FS)
def seqO (G : FS) (o : SO) : SO := match o with
  | .nx e1 => G e1
  | o => o
theorem k_seq : sSeq F G e = seqO G (F e) := by unfold sSeq seqO; cases F e <;> rfl
theorem k_seq_nx : seqO G (.nx e) = G e := rfl
theorem k_seq_rt (p : PV) : seqO G (.rt p e) = .rt p e := rfl
theorem k_seq_bk : seqO G (.bk e) = .bk e := rfl
theorem k_seq_ct : seqO G (.ct e) = .ct e := rfl
theorem k_seq_ex (x : Exn) : seqO G (.ex x e) = .ex x e := rfl
theorem k_seq_bot : seqO G .bot = .bot := rfl
theorem k_seq_if {c : Prop} [Decidable c] (a b : SO) : seqO G (if c then a else b) = if c then seqO G a else seqO G b := by split <;> rfl
theorem k_nx : sNx e = .nx e := rfl
theorem k_bk : sBk e = .bk e := rfl
theorem k_ct : sCt e = .ct e := rfl
theorem k_botS : sBot e = .bot := rfl
def exK (p : PV) (e : DEnv) : SO := .nx e
theorem k_expr : sExpr f e = (f e).bindS exK := rfl
theorem k_exK (p : PV) : exK p e = .nx e := rfl
def rtK (p : PV) (e : DEnv) : SO := .rt p e
theorem k_ret : sRet f e = (f e).bindS rtK := rfl
theorem k_rtK (p : PV) : rtK p e = .rt p e := rfl
theorem k_retN : sRetN e = .rt (.dat .non) e := rfl
def sifK (F G : FS) (b : Bool) (e : DEnv) : SO := match b with
  | true => F e
  | false => G e
theorem k_sif : sIf t F G e = (t e).bindS (sifK F G) := rfl
theorem k_sifK (b : Bool) : sifK F G b e = if b = true then F e else G e := by cases b <;> rfl
def putE (o : Option DEnv) : SO := match o with
  | some e => .nx e
  | none => .bot
def setK (i : Nat) (p : PV) (e : DEnv) : SO := putE (putC i p e)
theorem k_set (i : Nat) : sSet i f e = (f e).bindS (setK i) := by
  unfold sSet setK putE
  congr 1
theorem k_setK (i : Nat) (p : PV) : setK i p e = putE (putC i p e) := rfl
theorem k_putE : putE (some e) = .nx e := rfl
theorem k_put_dat (i : Nat) (d : D) : putC i (.dat d) e = some (e.set i (.val d)) := rfl
theorem k_put_fresh (i : Nat) (d : D) : putC i (.fresh d) e = some (e.set i (.own d)) := rfl
def putP (i : Nat) (o : Option (D × DEnv)) : Option DEnv := match o with
  | some (d, e2) => some (e2.set i (.val d))
  | none => none
theorem k_put_pk (i j : Nat) : putC i (.pk j) e = putP i (frzC j e e[j]?) := by
  rw [← k_frz_pk]
  unfold putC putP
  dsimp only
  all_goals (cases frz (.pk j) e with | none => rfl | some z => cases z; rfl)
theorem k_putP (i : Nat) (d : D) : putP i (some (d, e)) = some (e.set i (.val d)) := rfl
def asgO (g : FG) (o : Option (D × DEnv)) : SO := match o with
  | some (d, e2) => putE (g d e2)
  | none => .bot
def asgK (g : FG) (p : PV) (e : DEnv) : SO := asgO g (frz p e)
theorem k_asg (g : FG) : sAsg f g e = (f e).bindS (asgK g) := by
  unfold sAsg asgK asgO putE
  congr 1
theorem k_asgK (g : FG) (p : PV) : asgK g p e = asgO g (frz p e) := rfl
theorem k_asgO (g : FG) (d : D) : asgO g (some (d, e)) = putE (g d e) := rfl
theorem k_tgN (i : Nat) (d : D) : tgN i d e = some (e.set i (.val d)) := rfl
theorem k_tgTup (gs : FGs) (ds : List D) : tgTup gs (.tup ds) e = gs ds e := rfl
theorem k_tgNil : tgNil [] e = some e := rfl
def tgO (gs : FGs) (r : List D) (o : Option DEnv) : Option DEnv := match o with
  | some e1 => gs r e1
  | none => none
theorem k_tgCons (g : FG) (gs : FGs) (d : D) (r : List D) : tgCons g gs (d :: r) e = tgO gs r (g d e) := by
  unfold tgCons tgO
  dsimp only
  all_goals (cases g d e <;> rfl)
theorem k_tgO (gs : FGs) (r : List D) : tgO gs r (some e) = gs r e := rfl
def parK (i j : Nat) (ds : List D) (e : DEnv) : SO := match ds with
  | [d1, d2] => .nx ((e.set i (.val d1)).set j (.val d2))
  | _ => .bot
theorem k_par (i j : Nat) : sPar i j f g e = (eItems [f, g] e).bindS (parK i j) := rfl
theorem k_parK (i j : Nat) (d1 d2 : D) : parK i j [d1, d2] e = .nx ((e.set i (.val d1)).set j (.val d2)) := rfl
-- ends of a def
theorem k_fin_rt (m : Option Nat) (p : PV) : fin m (.rt p e) = finP m p e := rfl
theorem k_fin_nx (m : Option Nat) : fin m (.nx e) = finP m (.dat .non) e := rfl
theorem k_fin_ex (x : Exn) : fin none (.ex x e) = .ex x none := rfl
theorem k_fin_bot (m : Option Nat) : fin m .bot = .bot := rfl
theorem k_fin_if {c : Prop} [Decidable c] (m : Option Nat) (a b : SO) : fin m (if c then a else b) = if c then fin m a else fin m b := by split <;> rfl
theorem k_finP_dat (d : D) : finP none (.dat d) e = .ret d none := rfl
theorem k_finP_fresh (d : D) : finP none (.fresh d) e = .own d none := rfl
def finC (c : Option Cell) : FOut := match c with
  | some (.own d) => .own d none
  | some (.val d) => .ret d none
  | _ => .bot
theorem k_finP_pk (i : Nat) : finP none (.pk i) e = finC e[i]? := by
  unfold finP outOf finC
  simp only [reduceCtorEq, if_false]
  all_goals (cases e[i]? with | none => rfl | some c => cases c <;> rfl)
theorem k_finC_own (d : D) : finC (some (.own d)) = .own d none := rfl
theorem k_finC_val (d : D) : finC (some (.val d)) = .ret d none := rfl
-- loops
theorem k_for (fi : FI) (g : FG) : sFor fi g F e = (fi e).bindS (forR g F) := rfl
def seqI (o : Option (D × DEnv)) : EO (List D) := match o with
  | some (.lst ds, e2) => .ok ds e2
  | some (.tup ds, e2) => .ok ds e2
  | some (.str z, e2) => .ok (signs z) e2
  | _ => .bot
def fsK (p : PV) (e : DEnv) : EO (List D) := seqI (frz p e)
theorem k_fiSeq : fiSeq f e = (f e).bind fsK := rfl
theorem k_fsK (p : PV) : fsK p e = seqI (frz p e) := rfl
theorem k_seqI_lst (ds : List D) : seqI (some (.lst ds, e)) = .ok ds e := rfl
theorem k_seqI_tup (ds : List D) : seqI (some (.tup ds, e)) = .ok ds e := rfl
end
end DL

set_option Elab.async false
set_option linter.all false
set_option maxRecDepth 100000
/-! The data layer: reckoning with data. -/
namespace DL
open PySem PySem.Spec L2
/-- a product of which one factor is short -/
theorem mulR {i j : Int} (h : j.natAbs < 2 ^ 63) : IntMulOk i j := by
  refine .of_right ?_
  unfold Builtin.Int.intBits
  by_cases h0 : j = 0
  · subst h0; decide
  · have h2 := (Nat.log2_lt (by omega : j.natAbs ≠ 0)).mpr h
    rw [if_neg (by simpa using h0)]
    omega
theorem mulL {i j : Int} (h : i.natAbs < 2 ^ 63) : IntMulOk i j := by
  refine .of_left ?_
  unfold Builtin.Int.intBits
  by_cases h0 : i = 0
  · subst h0; decide
  · have h2 := (Nat.log2_lt (by omega : i.natAbs ≠ 0)).mpr h
    rw [if_neg (by simpa using h0)]
    omega
theorem divOk {i j : Int} (h : j.natAbs < 2 ^ 9000) : Builtin.divisionGoesByPylong i j = false := by
  unfold Builtin.divisionGoesByPylong
  by_cases h0 : j = 0
  · subst h0; simp
  · have h1 : ¬ (j == 0) = true := by simpa using h0
    have h2 : j.natAbs.log2 < 9000 := (Nat.log2_lt (by omega)).mpr h
    have h3 : ¬ (j.natAbs.log2 / 30 + 1 > 300) := by omega
    simp only [h1, h3, decide_false, Bool.false_and, if_false, Bool.false_eq_true]
theorem d_add_int (i j : Int) : addD (.int i) (.int j) = some (.dat (.int (i + j))) := rfl
theorem d_add_lst (xs ys : List D) (h : xs.length + ys.length ≤ 1000000) : addD (.lst xs) (.lst ys) = some (.fresh (.lst (xs ++ ys))) := if_pos h
theorem d_add_tup (xs ys : List D) (h : xs.length + ys.length ≤ 1000000) : addD (.tup xs) (.tup ys) = some (.dat (.tup (xs ++ ys))) := if_pos h
theorem d_add_str (xs ys : Str) (h : xs.length + ys.length ≤ 1000000) : addD (.str xs) (.str ys) = some (.dat (.str (xs ++ ys))) := if_pos h
def addQ (r : PV) (b : Bool) : Option PV := if b = true then some r else none
theorem d_add_lstQ (xs ys : List D) : addD (.lst xs) (.lst ys) = addQ (.fresh (.lst (xs ++ ys))) (decide (xs.length + ys.length ≤ 1000000)) := by
  show (if _ then _ else _) = _
  unfold addQ
  by_cases h : xs.length + ys.length ≤ 1000000 <;> simp [h]
theorem d_add_tupQ (xs ys : List D) : addD (.tup xs) (.tup ys) = addQ (.dat (.tup (xs ++ ys))) (decide (xs.length + ys.length ≤ 1000000)) := by
  show (if _ then _ else _) = _
  unfold addQ
  by_cases h : xs.length + ys.length ≤ 1000000 <;> simp [h]
theorem d_add_strQ (xs ys : Str) : addD (.str xs) (.str ys) = addQ (.dat (.str (xs ++ ys))) (decide (xs.length + ys.length ≤ 1000000)) := by
  show (if _ then _ else _) = _
  unfold addQ
  by_cases h : xs.length + ys.length ≤ 1000000 <;> simp [h]
theorem d_addQ1 (r : PV) : addQ r true = some r := rfl
theorem d_sub_int (i j : Int) : subD (.int i) (.int j) = some (.dat (.int (i - j))) := rfl
theorem d_mul {i j : Int} (h : IntMulOk i j) : mulD (.int i) (.int j) = some (.dat (.int (i * j))) := if_pos h
theorem d_mulR (i j : Int) (h : j.natAbs < 2 ^ 63) : mulD (.int i) (.int j) = some (.dat (.int (i * j))) := d_mul (mulR h)
theorem d_mulL (i j : Int) (h : i.natAbs < 2 ^ 63) : mulD (.int i) (.int j) = some (.dat (.int (i * j))) := d_mul (mulL h)
theorem d_mod_pos (i j : Int) (h : 0 < j) : modD (.int i) (.int j) = some (.dat (.int (i % j))) := by
  rw [← Int.fmod_eq_emod_of_nonneg i (by omega : 0 ≤ j)]
  exact if_pos (by omega)
theorem d_mod (i j : Int) (h : j ≠ 0) : modD (.int i) (.int j) = some (.dat (.int (i.fmod j))) := by
  exact if_pos h
theorem d_div (i j : Int) (h : j ≠ 0) (h2 : j.natAbs < 2 ^ 9000) : divD (.int i) (.int j) = some (.dat (.int (i.fdiv j))) := by
  exact if_pos ⟨h, divOk h2⟩
theorem d_div_pos (i j : Int) (h : 0 < j) (h2 : j.natAbs < 2 ^ 9000) : divD (.int i) (.int j) = some (.dat (.int (i / j))) := by
  rw [← Int.fdiv_eq_ediv_of_nonneg i (by omega : 0 ≤ j)]
  exact if_pos ⟨by omega, divOk h2⟩
theorem d_pow (i j : Int) (h : CPow i j) : powD (.int i) (.int j) = some (.dat (.int (i ^ j.toNat))) := if_pos h
theorem d_powL (i j : Int) (h : 0 ≤ j) (h2 : j ≤ 1000000) (h3 : i.natAbs < 2 ^ 64) : powD (.int i) (.int j) = some (.dat (.int (i ^ j.toNat))) := d_pow i j ⟨h, h2, h3⟩
theorem d_lt (i j : Int) : ltD (.int i) (.int j) = some (.dat (.bl (decide (i < j)))) := rfl
theorem d_le (i j : Int) : leD (.int i) (.int j) = some (.dat (.bl (decide (i ≤ j)))) := rfl
theorem d_gt (i j : Int) : gtD (.int i) (.int j) = some (.dat (.bl (decide (j < i)))) := rfl
theorem d_ge (i j : Int) : geD (.int i) (.int j) = some (.dat (.bl (decide (j ≤ i)))) := rfl
/-- sameness by value -/
def deq (d e : D) : Bool := PyData.eqv (toPy d) (toPy e)
def deqs (d e : List D) : Bool := PyData.eqvAll (toPys d) (toPys e)
theorem d_eq (d e : D) (h : shp d = true) (h2 : shp e = true) : eqD d e = some (.dat (.bl (deq d e))) := by unfold eqD eqB deq; rw [if_pos (And.intro h h2)]; rfl
theorem d_ne (d e : D) (h : shp d = true) (h2 : shp e = true) : neD d e = some (.dat (.bl (!deq d e))) := by unfold neD eqB deq; rw [if_pos (And.intro h h2)]; rfl
def eqQ (d e : D) (a b : Bool) : Option PV := if a = true ∧ b = true then some (.dat (.bl (deq d e))) else none
theorem d_eqQ (d e : D) : eqD d e = eqQ d e (shp d) (shp e) := by
  unfold eqQ
  split
  · rename_i h; exact d_eq d e h.1 h.2
  · rename_i h; unfold eqD eqB; rw [if_neg h]
theorem d_eqQ1 (d e : D) : eqQ d e true true = some (.dat (.bl (deq d e))) := rfl
def neQ (d e : D) (a b : Bool) : Option PV := if a = true ∧ b = true then some (.dat (.bl (!deq d e))) else none
theorem d_neQ (d e : D) : neD d e = neQ d e (shp d) (shp e) := by
  unfold neQ
  split
  · rename_i h; exact d_ne d e h.1 h.2
  · rename_i h; unfold neD eqB; rw [if_neg h]
theorem d_neQ1 (d e : D) : neQ d e true true = some (.dat (.bl (!deq d e))) := rfl
theorem q_non : deq .non .non = true := by unfold deq; simp only [toPy, PyData.eqv]
theorem q_bl (b c : Bool) : deq (.bl b) (.bl c) = (b == c) := by unfold deq; simp only [toPy, PyData.eqv]
theorem q_int (i j : Int) : deq (.int i) (.int j) = decide (i = j) := by
  unfold deq; simp only [toPy, PyData.eqv]
  by_cases h : i = j <;> simp [h]
theorem q_bl_int (b : Bool) (j : Int) : deq (.bl b) (.int j) = decide ((if b then 1 else 0) = j) := by
  unfold deq; simp only [toPy, PyData.eqv]
  by_cases h : (if b = true then (1 : Int) else 0) = j <;> simp [h]
theorem q_int_bl (i : Int) (c : Bool) : deq (.int i) (.bl c) = decide (i = (if c then 1 else 0)) := by
  unfold deq; simp only [toPy, PyData.eqv]
  by_cases h : i = (if c = true then (1 : Int) else 0) <;> simp [h]
theorem q_str (x y : Str) : deq (.str x) (.str y) = (x == y) := by unfold deq; simp only [toPy, PyData.eqv]
theorem q_tup (xs ys : List D) : deq (.tup xs) (.tup ys) = deqs xs ys := by unfold deq deqs; simp only [toPy, PyData.eqv]
theorem q_lst (xs ys : List D) : deq (.lst xs) (.lst ys) = deqs xs ys := by unfold deq deqs; simp only [toPy, PyData.eqv]
theorem q_nil : deqs [] [] = true := by unfold deqs; simp only [toPys, PyData.eqvAll]
theorem q_cons (x y : D) (xs ys : List D) : deqs (x :: xs) (y :: ys) = (deq x y && deqs xs ys) := by unfold deq deqs; simp only [toPys, PyData.eqvAll]
theorem q_nil_cons (y : D) (ys : List D) : deqs [] (y :: ys) = false := by unfold deqs; simp only [toPys, PyData.eqvAll]
theorem q_cons_nil (y : D) (ys : List D) : deqs (y :: ys) [] = false := by unfold deqs; simp only [toPys, PyData.eqvAll]
theorem s_non : shp .non = true := by decide
theorem s_bl (b : Bool) : shp (.bl b) = true := by cases b <;> decide
theorem s_int (i : Int) : shp (.int i) = true := by unfold shp; simp [okPy, toPy, PyData.depth]
/-- flat data: no deeper than n -/
def flt : Nat → D → Bool
  | _, .non => true
  | _, .bl _ => true
  | _, .int _ => true
  | _, .str x => PyData.strOk x
  | 0, _ => false
  | n + 1, .tup ds => ds.all (flt n)
  | n + 1, .lst ds => ds.all (flt n)
  | _, _ => false
theorem flt_toPys {n : Nat} (hd : ∀ d : D, flt n d = true → okPy d = true ∧ (toPy d).depth ≤ n) : ∀ ds : List D, ds.all (flt n) = true → okPys ds = true ∧ PyData.depthAll (toPys ds) ≤ n
  | [], _ => by simp [okPys, toPys, PyData.depthAll]
  | d :: ds, h => by
    rw [List.all_cons, Bool.and_eq_true] at h
    have h1 := hd d h.1
    have h2 := flt_toPys hd ds h.2
    simp only [okPys, toPys, PyData.depthAll, h1.1, h2.1, Bool.and_self, true_and]
    omega
theorem flt_ok : ∀ (n : Nat) (d : D), flt n d = true → okPy d = true ∧ (toPy d).depth ≤ n
  | n, .non, _ => by simp [okPy, toPy, PyData.depth]
  | n, .bl _, _ => by simp [okPy, toPy, PyData.depth]
  | n, .int _, _ => by simp [okPy, toPy, PyData.depth]
  | n, .str x, h => by
    have : PyData.strOk x = true := by cases n <;> simpa [flt] using h
    simp [okPy, toPy, PyData.depth, this]
  | 0, .tup _, h => by simp [flt] at h
  | 0, .lst _, h => by simp [flt] at h
  | 0, .dct _ _, h => by simp [flt] at h
  | 0, .ins _ _ _, h => by simp [flt] at h
  | 0, .exn _ _, h => by simp [flt] at h
  | 0, .adr _, h => by simp [flt] at h
  | n + 1, .adr _, h => by simp [flt] at h
  | n + 1, .exn _ _, h => by simp [flt] at h
  | n + 1, .dct _ _, h => by simp [flt] at h
  | n + 1, .ins _ _ _, h => by simp [flt] at h
  | n + 1, .tup ds, h => by
    have q := flt_toPys (flt_ok n) ds (by simpa [flt] using h)
    simp only [okPy, toPy, PyData.depth]
    exact ⟨q.1, by omega⟩
  | n + 1, .lst ds, h => by
    have q := flt_toPys (flt_ok n) ds (by simpa [flt] using h)
    simp only [okPy, toPy, PyData.depth]
    exact ⟨q.1, by omega⟩
theorem shp_flt {d : D} (h : flt 64 d = true) : shp d = true := by
  have q := flt_ok 64 d h
  unfold shp
  simp [q.1, q.2]
theorem s_tup (ds : List D) (h : ds.all (flt 63) = true) : shp (.tup ds) = true := shp_flt (by simpa [flt] using h)
theorem s_lst (ds : List D) (h : ds.all (flt 63) = true) : shp (.lst ds) = true := shp_flt (by simpa [flt] using h)
theorem s_str (x : Str) (h : PyData.strOk x = true) : shp (.str x) = true := shp_flt (by simpa [flt] using h)
def shQ (d : D) (b : Bool) : Bool := if b = true then true else shp d
theorem s_tupQ (ds : List D) : shp (.tup ds) = shQ (.tup ds) (ds.all (flt 63)) := by
  unfold shQ
  split
  · rename_i h; exact s_tup ds h
  · rfl
theorem s_lstQ (ds : List D) : shp (.lst ds) = shQ (.lst ds) (ds.all (flt 63)) := by
  unfold shQ
  split
  · rename_i h; exact s_lst ds h
  · rfl
theorem s_strQ (x : Str) : shp (.str x) = shQ (.str x) (PyData.strOk x) := by
  unfold shQ
  split
  · rename_i h; exact s_str x h
  · rfl
theorem s_Q1 (d : D) : shQ d true = true := rfl
theorem f_non (n : Nat) : flt n .non = true := by cases n <;> rfl
theorem f_bl (n : Nat) (b : Bool) : flt n (.bl b) = true := by cases n <;> rfl
theorem f_int (n : Nat) (b : Int) : flt n (.int b) = true := by cases n <;> rfl
theorem f_str (n : Nat) (x : Str) : flt n (.str x) = PyData.strOk x := by cases n <;> rfl
theorem f_tup (n : Nat) (ds : List D) : flt (n + 1) (.tup ds) = ds.all (flt n) := rfl
theorem f_lst (n : Nat) (ds : List D) : flt (n + 1) (.lst ds) = ds.all (flt n) := rfl
theorem d_is_non (d : D) : isD d .non = some (.dat (.bl (isNon d))) := rfl
theorem d_isn_non (d : D) : isnD d .non = some (.dat (.bl (!isNon d))) := rfl
theorem z_cast (n : Nat) : ((no_index (OfNat.ofNat n) : Nat) : Int) = OfNat.ofNat n := rfl
/-! ### places -/
theorem a_nat {α : Type} (xs : List α) (j : Nat) : atI xs (j : Int) = xs[j]? := by
  cases h : xs[j]? with
  | some v => exact atI_nat h
  | none =>
    have := List.getElem?_eq_none_iff.mp h
    unfold atI ixN
    rw [if_pos (by omega), if_neg (by omega)]
    rfl
theorem a_pos {α : Type} (xs : List α) (i : Int) (h : 0 ≤ i) : atI xs i = xs[i.toNat]? := by
  obtain ⟨j, rfl⟩ := Int.eq_ofNat_of_zero_le h
  rw [a_nat, Int.toNat_natCast]
theorem a_neg {α : Type} (xs : List α) (i : Int) (h : i < 0) (h2 : -(xs.length : Int) ≤ i) : atI xs i = xs[((xs.length : Int) + i).toNat]? := by
  unfold atI ixN
  rw [if_neg (by omega), if_pos (by omega)]
  show xs[_]? = _
  congr 1
  omega
theorem x_tup (xs : List D) (i : Int) : ixD (.tup xs) (.int i) = (atI xs i).map .dat := rfl
theorem x_lst (xs : List D) (i : Int) : ixD (.lst xs) (.int i) = (atI xs i).map .dat := rfl
theorem l_lst (xs : List D) : lenD [.lst xs] = some (.dat (.int xs.length)) := rfl
theorem l_tup (xs : List D) : lenD [.tup xs] = some (.dat (.int xs.length)) := rfl
theorem l_str (z : Str) (h : z.length ≤ 1000000) : lenD [.str z] = some (.dat (.int z.length)) := if_pos h
theorem n_abs (i : Int) : absD [.int i] = some (.dat (.int (i.natAbs : Int))) := by
  show some (PV.dat (D.int (if i < 0 then -i else i))) = _
  congr 3
  split <;> omega
theorem n_min (i j : Int) : minD [.int i, .int j] = some (.dat (.int (min i j))) := by
  show some (PV.dat (D.int (if j < i then j else i))) = _
  congr 3
  split <;> omega
theorem n_max (i j : Int) : maxD [.int i, .int j] = some (.dat (.int (max i j))) := by
  show some (PV.dat (D.int (if j > i then j else i))) = _
  congr 3
  split <;> omega
theorem n_list_l (xs : List D) : listD [.lst xs] = some (.fresh (.lst xs)) := rfl
theorem n_list_t (xs : List D) : listD [.tup xs] = some (.fresh (.lst xs)) := rfl
theorem n_tup_l (xs : List D) : tupleD [.lst xs] = some (.dat (.tup xs)) := rfl
theorem n_tup_t (xs : List D) : tupleD [.tup xs] = some (.dat (.tup xs)) := rfl
theorem n_int (i : Int) : intD [.int i] = some (.dat (.int i)) := rfl
theorem c_lst (xs : List D) (lo hi : Option Int) : slD (.lst xs) lo hi = some (.fresh (.lst (cutA xs lo hi))) := rfl
theorem c_tup (xs : List D) (lo hi : Option Int) : slD (.tup xs) lo hi = some (.dat (.tup (cutA xs lo hi))) := rfl
theorem c_to {α : Type} (xs : List α) (k : Nat) : cutA xs none (some (k : Int)) = xs.take k := by
  unfold cutA
  rw [HT.sIx_none, HT.sIx_nat, List.drop_zero, Nat.sub_zero]
  rcases Nat.le_total k xs.length with h | h
  · rw [Nat.min_eq_left h]
  · rw [Nat.min_eq_right h, List.take_of_length_le (Nat.le_refl _), List.take_of_length_le h]
theorem c_from {α : Type} (xs : List α) (k : Nat) : cutA xs (some (k : Int)) none = xs.drop k := by
  unfold cutA
  rw [HT.sIx_none, HT.sIx_nat]
  rcases Nat.le_total k xs.length with h | h
  · rw [Nat.min_eq_left h, List.take_of_length_le (by simp)]
  · rw [Nat.min_eq_right h, Nat.sub_self, List.take_zero, List.drop_of_length_le h]
theorem c_toL {α : Type} (xs : List α) (i : Int) (h : 0 ≤ i) : cutA xs none (some i) = xs.take i.toNat := by
  obtain ⟨k, rfl⟩ := Int.eq_ofNat_of_zero_le h
  rw [c_to, Int.toNat_natCast]
theorem c_fromL {α : Type} (xs : List α) (i : Int) (h : 0 ≤ i) : cutA xs (some i) none = xs.drop i.toNat := by
  obtain ⟨k, rfl⟩ := Int.eq_ofNat_of_zero_le h
  rw [c_from, Int.toNat_natCast]
theorem c_all {α : Type} (xs : List α) : cutA xs none none = xs := by
  unfold cutA
  rw [HT.sIx_none, HT.sIx_none, List.drop_zero, Nat.sub_zero, List.take_of_length_le (Nat.le_refl _)]
theorem c_mid {α : Type} (xs : List α) (j k : Nat) : cutA xs (some (j : Int)) (some (k : Int)) = (xs.take k).drop j := by
  unfold cutA
  rw [HT.sIx_nat, HT.sIx_nat, List.drop_take]
  rcases Nat.le_total j xs.length with h | h
  · rw [Nat.min_eq_left h]
    rcases Nat.le_total k xs.length with h' | h'
    · rw [Nat.min_eq_left h']
    · rw [Nat.min_eq_right h', List.take_of_length_le (by simp), List.take_of_length_le (by rw [List.length_drop]; omega)]
  · rw [Nat.min_eq_right h, List.drop_of_length_le (Nat.le_refl _), List.drop_of_length_le h, List.take_nil, List.take_nil]
theorem i_int_non  : isiB "int" .non = some false := by with_unfolding_all rfl
theorem i_int_bl (b : Bool) : isiB "int" (.bl b) = some true := by with_unfolding_all rfl
theorem i_int_int (i : Int) : isiB "int" (.int i) = some true := by with_unfolding_all rfl
theorem i_int_str (x : Str) : isiB "int" (.str x) = some false := by with_unfolding_all rfl
theorem i_int_tup (xs : List D) : isiB "int" (.tup xs) = some false := by with_unfolding_all rfl
theorem i_int_lst (xs : List D) : isiB "int" (.lst xs) = some false := by with_unfolding_all rfl
theorem i_int_dct (ks : List Key) (xs : List D) : isiB "int" (.dct ks xs) = some false := by with_unfolding_all rfl
theorem i_bool_non  : isiB "bool" .non = some false := by with_unfolding_all rfl
theorem i_bool_bl (b : Bool) : isiB "bool" (.bl b) = some true := by with_unfolding_all rfl
theorem i_bool_int (i : Int) : isiB "bool" (.int i) = some false := by with_unfolding_all rfl
theorem i_bool_str (x : Str) : isiB "bool" (.str x) = some false := by with_unfolding_all rfl
theorem i_bool_tup (xs : List D) : isiB "bool" (.tup xs) = some false := by with_unfolding_all rfl
theorem i_bool_lst (xs : List D) : isiB "bool" (.lst xs) = some false := by with_unfolding_all rfl
theorem i_bool_dct (ks : List Key) (xs : List D) : isiB "bool" (.dct ks xs) = some false := by with_unfolding_all rfl
theorem i_str_non  : isiB "str" .non = some false := by with_unfolding_all rfl
theorem i_str_bl (b : Bool) : isiB "str" (.bl b) = some false := by with_unfolding_all rfl
theorem i_str_int (i : Int) : isiB "str" (.int i) = some false := by with_unfolding_all rfl
theorem i_str_str (x : Str) : isiB "str" (.str x) = some true := by with_unfolding_all rfl
theorem i_str_tup (xs : List D) : isiB "str" (.tup xs) = some false := by with_unfolding_all rfl
theorem i_str_lst (xs : List D) : isiB "str" (.lst xs) = some false := by with_unfolding_all rfl
theorem i_str_dct (ks : List Key) (xs : List D) : isiB "str" (.dct ks xs) = some false := by with_unfolding_all rfl
theorem i_list_non  : isiB "list" .non = some false := by with_unfolding_all rfl
theorem i_list_bl (b : Bool) : isiB "list" (.bl b) = some false := by with_unfolding_all rfl
theorem i_list_int (i : Int) : isiB "list" (.int i) = some false := by with_unfolding_all rfl
theorem i_list_str (x : Str) : isiB "list" (.str x) = some false := by with_unfolding_all rfl
theorem i_list_tup (xs : List D) : isiB "list" (.tup xs) = some false := by with_unfolding_all rfl
theorem i_list_lst (xs : List D) : isiB "list" (.lst xs) = some true := by with_unfolding_all rfl
theorem i_list_dct (ks : List Key) (xs : List D) : isiB "list" (.dct ks xs) = some false := by with_unfolding_all rfl
theorem i_tuple_non  : isiB "tuple" .non = some false := by with_unfolding_all rfl
theorem i_tuple_bl (b : Bool) : isiB "tuple" (.bl b) = some false := by with_unfolding_all rfl
theorem i_tuple_int (i : Int) : isiB "tuple" (.int i) = some false := by with_unfolding_all rfl
theorem i_tuple_str (x : Str) : isiB "tuple" (.str x) = some false := by with_unfolding_all rfl
theorem i_tuple_tup (xs : List D) : isiB "tuple" (.tup xs) = some true := by with_unfolding_all rfl
theorem i_tuple_lst (xs : List D) : isiB "tuple" (.lst xs) = some false := by with_unfolding_all rfl
theorem i_tuple_dct (ks : List Key) (xs : List D) : isiB "tuple" (.dct ks xs) = some false := by with_unfolding_all rfl
theorem i_dict_non  : isiB "dict" .non = some false := by with_unfolding_all rfl
theorem i_dict_bl (b : Bool) : isiB "dict" (.bl b) = some false := by with_unfolding_all rfl
theorem i_dict_int (i : Int) : isiB "dict" (.int i) = some false := by with_unfolding_all rfl
theorem i_dict_str (x : Str) : isiB "dict" (.str x) = some false := by with_unfolding_all rfl
theorem i_dict_tup (xs : List D) : isiB "dict" (.tup xs) = some false := by with_unfolding_all rfl
theorem i_dict_lst (xs : List D) : isiB "dict" (.lst xs) = some false := by with_unfolding_all rfl
theorem i_dict_dct (ks : List Key) (xs : List D) : isiB "dict" (.dct ks xs) = some true := by with_unfolding_all rfl
theorem q_non_bl  (c : Bool) : deq .non (.bl c) = false := by unfold deq; simp only [toPy, PyData.eqv]
theorem q_non_int  (j : Int) : deq .non (.int j) = false := by unfold deq; simp only [toPy, PyData.eqv]
theorem q_non_str  (y : Str) : deq .non (.str y) = false := by unfold deq; simp only [toPy, PyData.eqv]
theorem q_non_tup  (ys : List D) : deq .non (.tup ys) = false := by unfold deq; simp only [toPy, PyData.eqv]
theorem q_non_lst  (ys : List D) : deq .non (.lst ys) = false := by unfold deq; simp only [toPy, PyData.eqv]
theorem q_bl_non (b : Bool)  : deq (.bl b) .non = false := by unfold deq; simp only [toPy, PyData.eqv]
theorem q_bl_str (b : Bool) (y : Str) : deq (.bl b) (.str y) = false := by unfold deq; simp only [toPy, PyData.eqv]
theorem q_bl_tup (b : Bool) (ys : List D) : deq (.bl b) (.tup ys) = false := by unfold deq; simp only [toPy, PyData.eqv]
theorem q_bl_lst (b : Bool) (ys : List D) : deq (.bl b) (.lst ys) = false := by unfold deq; simp only [toPy, PyData.eqv]
theorem q_int_non (i : Int)  : deq (.int i) .non = false := by unfold deq; simp only [toPy, PyData.eqv]
theorem q_int_str (i : Int) (y : Str) : deq (.int i) (.str y) = false := by unfold deq; simp only [toPy, PyData.eqv]
theorem q_int_tup (i : Int) (ys : List D) : deq (.int i) (.tup ys) = false := by unfold deq; simp only [toPy, PyData.eqv]
theorem q_int_lst (i : Int) (ys : List D) : deq (.int i) (.lst ys) = false := by unfold deq; simp only [toPy, PyData.eqv]
theorem q_str_non (x : Str)  : deq (.str x) .non = false := by unfold deq; simp only [toPy, PyData.eqv]
theorem q_str_bl (x : Str) (c : Bool) : deq (.str x) (.bl c) = false := by unfold deq; simp only [toPy, PyData.eqv]
theorem q_str_int (x : Str) (j : Int) : deq (.str x) (.int j) = false := by unfold deq; simp only [toPy, PyData.eqv]
theorem q_str_tup (x : Str) (ys : List D) : deq (.str x) (.tup ys) = false := by unfold deq; simp only [toPy, PyData.eqv]
theorem q_str_lst (x : Str) (ys : List D) : deq (.str x) (.lst ys) = false := by unfold deq; simp only [toPy, PyData.eqv]
theorem q_tup_non (xs : List D)  : deq (.tup xs) .non = false := by unfold deq; simp only [toPy, PyData.eqv]
theorem q_tup_bl (xs : List D) (c : Bool) : deq (.tup xs) (.bl c) = false := by unfold deq; simp only [toPy, PyData.eqv]
theorem q_tup_int (xs : List D) (j : Int) : deq (.tup xs) (.int j) = false := by unfold deq; simp only [toPy, PyData.eqv]
theorem q_tup_str (xs : List D) (y : Str) : deq (.tup xs) (.str y) = false := by unfold deq; simp only [toPy, PyData.eqv]
theorem q_tup_lst (xs : List D) (ys : List D) : deq (.tup xs) (.lst ys) = false := by unfold deq; simp only [toPy, PyData.eqv]
theorem q_lst_non (xs : List D)  : deq (.lst xs) .non = false := by unfold deq; simp only [toPy, PyData.eqv]
theorem q_lst_bl (xs : List D) (c : Bool) : deq (.lst xs) (.bl c) = false := by unfold deq; simp only [toPy, PyData.eqv]
theorem q_lst_int (xs : List D) (j : Int) : deq (.lst xs) (.int j) = false := by unfold deq; simp only [toPy, PyData.eqv]
theorem q_lst_str (xs : List D) (y : Str) : deq (.lst xs) (.str y) = false := by unfold deq; simp only [toPy, PyData.eqv]
theorem q_lst_tup (xs : List D) (ys : List D) : deq (.lst xs) (.tup ys) = false := by unfold deq; simp only [toPy, PyData.eqv]
theorem c_midL {α : Type} (xs : List α) (i j : Int) (h : 0 ≤ i) (h2 : 0 ≤ j) : cutA xs (some i) (some j) = (xs.take j.toNat).drop i.toNat := by
  obtain ⟨k, rfl⟩ := Int.eq_ofNat_of_zero_le h
  obtain ⟨l, rfl⟩ := Int.eq_ofNat_of_zero_le h2
  rw [c_mid, Int.toNat_natCast, Int.toNat_natCast]
/-! ### loops -/
/-- a loop over which P stands -/
theorem forR_keep {g : FG} {F : FS} (P : DEnv → Prop) : ∀ {ds : List D} {e : DEnv}, (∀ d ∈ ds, ∀ e, P e → ∃ e1, g d e = some e1 ∧ ∃ e2, (F e1 = .nx e2 ∨ F e1 = .ct e2) ∧ P e2) → P e → ∃ e', forR g F ds e = .nx e' ∧ P e'
  | [], e, _, p => ⟨e, rfl, p⟩
  | d :: ds, e, h, p => by
    obtain ⟨e1, h1, e2, h2, p2⟩ := h d List.mem_cons_self e p
    obtain ⟨e', h3, p3⟩ := forR_keep P (fun d hd => h d (List.mem_cons_of_mem _ hd)) p2
    refine ⟨e', ?_, p3⟩
    rw [forR, h1]
    dsimp only
    rcases h2 with h2 | h2 <;> rw [h2] <;> exact h3
theorem while_nx {t : FB} {F : FS} {e e' : DEnv} {n : Nat} (h : whileN n t F e = .nx e') : sWhile t F e = .nx e' := sWhile_eq h (fun z => nomatch z)
theorem gcd_step {a b : Int} (h : 0 ≤ a) (h2 : 0 ≤ b) : Int.gcd b (a % b) = Int.gcd a b := by
  obtain ⟨x, rfl⟩ := Int.eq_ofNat_of_zero_le h
  obtain ⟨y, rfl⟩ := Int.eq_ofNat_of_zero_le h2
  rw [← Int.natCast_emod]
  show Nat.gcd _ _ = Nat.gcd _ _
  simp only [Int.natAbs_natCast]
  rw [Nat.gcd_comm, ← Nat.gcd_rec, Nat.gcd_comm]
theorem while_gcd {t : FB} {F : FS} (env : Int → Int → DEnv) (ht : ∀ a b, t (env a b) = .ok (decide (0 < b)) (env a b)) (hF : ∀ a b, 0 < b → F (env a b) = .nx (env b (a % b))) :
    ∀ (n : Nat) (a b : Int), 0 ≤ a → 0 ≤ b → b.toNat < n → ∃ k, whileN k t F (env a b) = .nx (env (Int.gcd a b) 0)
  | 0, _, _, _, _, h => by omega
  | n + 1, a, b, ha, hb, h => by
    by_cases hb0 : b = 0
    · subst hb0
      refine ⟨1, ?_⟩
      rw [whileN, ht]
      simp only [Int.lt_irrefl, decide_false, Int.gcd_zero_right]
      congr 2
      omega
    · have h1 : 0 < b := by omega
      have h2 := Int.emod_lt_of_pos a h1
      have h3 := Int.emod_nonneg a hb0
      obtain ⟨k, hk⟩ := while_gcd env ht hF n b (a % b) hb h3 (by omega)
      refine ⟨k + 1, ?_⟩
      rw [whileN, ht, decide_eq_true h1]
      dsimp only
      rw [hF a b h1]
      dsimp only
      rw [hk]
      congr 3
      exact gcd_step ha hb
theorem seq_step {F G : FS} {e e1 : DEnv} (h : F e = .nx e1) : sSeq F G e = G e1 := by rw [k_seq, h, k_seq_nx]
end DL

set_option Elab.async false
set_option linter.all false
set_option maxRecDepth 100000
/-! The data layer: constants of the module. -/
namespace DL
open PySem PySem.Spec L2
/-- a constant of the module: what stands by the name, what it stands for -/
structure Kon (K : PySem.W.Frag) (mg : Str → Option Value) (x : Str) (d : D) : Prop where
  is : ∃ (u : Value) (v : V), mg x = some u ∧ RelV v u ∧ ∀ H, Rep ⟨K, mg⟩ H d v
/-- what a written value stands for -/
def KV (K : PySem.W.Frag) (mg : Str → Option Value) (u : Value) (d : D) : Prop := ∃ v : V, RelV v u ∧ ∀ H, Rep ⟨K, mg⟩ H d v
inductive KVs (K : PySem.W.Frag) (mg : Str → Option Value) : List Value → List D → Prop
  | nil : KVs K mg [] []
  | cons {u : Value} {d : D} {us : List Value} {ds : List D} (h : KV K mg u d) (t : KVs K mg us ds) : KVs K mg (u :: us) (d :: ds)
theorem Kon.mk' {K : PySem.W.Frag} {mg : Str → Option Value} {x : Str} {d : D} {u : Value} (h : mg x = some u) (k : KV K mg u d) : Kon K mg x d := by
  obtain ⟨v, r, p⟩ := k
  exact ⟨u, v, h, r, p⟩
theorem kv_int {K : PySem.W.Frag} {mg : Str → Option Value} {i : Int} {t} : KV K mg (.int i t) (.int i) := ⟨.int i, ⟨t, rfl⟩, fun _ => rfl⟩
theorem kv_str {K : PySem.W.Frag} {mg : Str → Option Value} {i : Str} {t} : KV K mg (.str i t) (.str i) := ⟨.str i, ⟨t, rfl⟩, fun _ => rfl⟩
theorem kv_non {K : PySem.W.Frag} {mg : Str → Option Value} : KV K mg .none .non := ⟨.non, rfl, fun _ => rfl⟩
theorem kvs_of {K : PySem.W.Frag} {mg : Str → Option Value} : ∀ {us : List Value} {ds : List D}, KVs K mg us ds → ∃ vs, Vals vs us ∧ ∀ H, RepL ⟨K, mg⟩ H ds vs
  | _, _, .nil => ⟨[], .nil, fun _ => rfl⟩
  | _, _, .cons ⟨v, r, p⟩ t => by
    obtain ⟨vs, q, z⟩ := kvs_of t
    exact ⟨v :: vs, .cons r q, fun H => ⟨v, vs, rfl, p H, z H⟩⟩
theorem kv_tup {K : PySem.W.Frag} {mg : Str → Option Value} {a : Addr} {od : Option Addr} {us : List Value} {n : Nat} {sl : Array (Option Value)} {ds : List D} (l : K.lookup a = some ⟨.type "tuple", od, .seq us.toArray n, sl⟩) (h : KVs K mg us ds) (z : us.length ≤ 1000 := by exact of_decide_eq_true rfl) : KV K mg (.ref a) (.tup ds) := by
  obtain ⟨vs, r, p⟩ := kvs_of h
  exact ⟨.ref a, rfl, fun H => ⟨a, vs, rfl, .inr ⟨_, _, n, l, rfl, rfl, by simpa using Nat.le_trans z (szle (by decide)), by simpa using r⟩, p H⟩⟩
theorem de_kon {X : Cx} {fx : List (Nat × V)} {W : WX} {pos : Pos} {x : Str} {d : D} (hg : Gl X x) (k : Kon X.K X.mg x d) (hd : (x == ("__debug__" : Str)) = false := by decide) : DE X fx W (.Name x pos) (eC d) := by
  obtain ⟨u, v, h, r, p⟩ := k.is
  exact de_glob hg h r p hd
end DL

set_option Elab.async false
set_option linter.all false
set_option maxRecDepth 100000
/-! Fractions: the pairs in lowest terms are the rational numbers. -/
namespace DL
open PySem PySem.Spec L2
def qD (q : Rat) : D := .tup [.int q.num, .int q.den]
theorem qD_inj {p q : Rat} (h : qD p = qD q) : p = q := by
  unfold qD at h
  simp only [D.tup.injEq, List.cons.injEq, D.int.injEq, and_true] at h
  exact Rat.ext h.1 (by omega)
/-- small enough for every step -/
def Sz (n : Nat) (q : Rat) : Prop := q.num.natAbs < 2 ^ n ∧ q.den < 2 ^ n
theorem bits_lt {i : Int} {n : Nat} (h : i.natAbs < 2 ^ n) : Builtin.Int.intBits i ≤ n := by
  unfold Builtin.Int.intBits
  by_cases h0 : i = 0
  · subst h0; simp
  · have h2 := (Nat.log2_lt (by omega : i.natAbs ≠ 0)).mpr h
    rw [if_neg (by simpa using h0)]
    omega
theorem mulS {i j : Int} {n m : Nat} (h : i.natAbs < 2 ^ n) (h2 : j.natAbs < 2 ^ m) (hn : n + m ≤ 100000000) : IntMulOk i j := by
  unfold IntMulOk
  have a := bits_lt h
  have b := bits_lt h2
  intro z
  simp only [Bool.and_eq_true, decide_eq_true_eq] at z
  have z2 := z.2
  unfold Builtin.Int.intTooBig at z2
  have : PySem.bitsLine = 134217728 := rfl
  simp only [decide_eq_true_eq, this] at z2
  omega
theorem gcd_num (a b : Int) (hb : 0 < b) : (Rat.divInt a b).num = a / (Int.gcd a b : Int) ∧ ((Rat.divInt a b).den : Int) = b / (Int.gcd a b : Int) := by
  obtain ⟨n, rfl⟩ := Int.eq_ofNat_of_zero_le (by omega : 0 ≤ b)
  have hn : n ≠ 0 := by omega
  rw [Rat.divInt_ofNat, ← Rat.normalize_eq_mkRat hn, Rat.normalize_eq]
  exact ⟨rfl, by simp [Int.gcd]⟩
theorem divInt_neg' (a b : Int) : Rat.divInt a b = Rat.divInt (-a) (-b) := by
  have h := Rat.divInt_mul_right (n := a) (d := b) (a := -1) (by decide)
  rw [← h, Int.mul_neg, Int.mul_neg, Int.mul_one, Int.mul_one]
/-- what ratio_of tells -/
theorem q_pos (a b : Int) (hb : 0 < b) : D.tup [.int (a / (Int.gcd a b : Int)), .int (b / (Int.gcd a b : Int))] = qD (Rat.divInt a b) := by
  have h := gcd_num a b hb
  unfold qD
  rw [h.1, h.2]
theorem q_neg (a b : Int) (hb : b < 0) : D.tup [.int (a.fdiv (0 - (Int.gcd a b : Int))), .int (b.fdiv (0 - (Int.gcd a b : Int)))] = qD (Rat.divInt a b) := by
  have e : Int.gcd (-a) (-b) = Int.gcd a b := by simp [Int.gcd]
  have h := gcd_num (-a) (-b) (by omega)
  rw [← divInt_neg', e] at h
  unfold qD
  rw [h.1, h.2, Int.zero_sub]
  have d1 : -(Int.gcd a b : Int) ∣ a := Int.neg_dvd.mpr (Int.gcd_dvd_left _ _)
  have d2 : -(Int.gcd a b : Int) ∣ b := Int.neg_dvd.mpr (Int.gcd_dvd_right _ _)
  rw [Int.fdiv_eq_ediv_of_dvd d1, Int.fdiv_eq_ediv_of_dvd d2, Int.ediv_neg, Int.ediv_neg, Int.neg_ediv_of_dvd (Int.gcd_dvd_left _ _), Int.neg_ediv_of_dvd (Int.gcd_dvd_right _ _)]
theorem q_self (q : Rat) : Rat.divInt q.num q.den = q := Rat.num_divInt_den q
theorem den_pos' (q : Rat) : (0 : Int) < q.den := by have := q.den_nz; omega
theorem gcd_q (q : Rat) : Int.gcd q.num q.den = 1 := by
  have := q.reduced
  unfold Nat.Coprime at this
  simpa [Int.gcd] using this
theorem q_add (p q : Rat) : Rat.divInt (p.num * q.den + q.num * p.den) (p.den * q.den) = p + q := by
  rw [← Rat.divInt_add_divInt _ _ (by have := p.den_nz; omega) (by have := q.den_nz; omega), q_self, q_self]
theorem q_sub (p q : Rat) : Rat.divInt (p.num * q.den - q.num * p.den) (p.den * q.den) = p - q := by
  rw [← Rat.divInt_sub_divInt _ _ (by have := p.den_nz; omega) (by have := q.den_nz; omega), q_self, q_self]
theorem q_mul (p q : Rat) : Rat.divInt (p.num * q.num) (p.den * q.den) = p * q := by
  rw [← Rat.divInt_mul_divInt, q_self, q_self]
theorem q_div (p q : Rat) : Rat.divInt (p.num * q.den) (p.den * q.num) = p / q := by
  have h : p / q = Rat.divInt p.num p.den / Rat.divInt q.num q.den := by rw [q_self, q_self]
  rw [h, Rat.div_def, Rat.inv_divInt, Rat.divInt_mul_divInt]
theorem q_lt (p q : Rat) : (p.num * q.den < q.num * p.den) ↔ p < q := (Rat.lt_iff p q).symm
theorem deq_q (p q : Rat) : deq (qD p) (qD q) = decide (p = q) := by
  unfold qD
  simp only [q_tup, q_cons, q_int, q_nil, Bool.and_true]
  by_cases h : p = q
  · subst h; simp
  · have : ¬ (p.num = q.num ∧ (p.den : Int) = q.den) := fun z => h (Rat.ext z.1 (by omega))
    rw [decide_eq_false h, ← Bool.decide_and, decide_eq_false this]
theorem shp_q (q : Rat) : shp (qD q) = true := shp_flt (by simp [qD, flt])
theorem flt_q (n : Nat) (q : Rat) : flt (n + 1) (qD q) = true := by simp [qD, flt, f_int]
theorem mul_lt {a b n m : Nat} (h : a < 2 ^ n) (h2 : b < 2 ^ m) : a * b < 2 ^ (n + m) := by
  rw [Nat.pow_add]
  exact Nat.mul_lt_mul'' h h2
/-- the denominator divides d, no further from 0 than n -/
def In (d n : Nat) (q : Rat) : Prop := q.den ∣ d ∧ q.num.natAbs ≤ n * q.den
theorem In.sz {d n k : Nat} {q : Rat} (h : In d n q) (h0 : 0 < d) (hd : d < 2 ^ k) (hn : n * d < 2 ^ k) : Sz k q := by
  have h1 : q.den ≤ d := Nat.le_of_dvd h0 h.1
  exact ⟨Nat.lt_of_le_of_lt (Nat.le_trans h.2 (Nat.mul_le_mul_left n h1)) hn, by omega⟩
theorem in_iff {d n : Nat} {q : Rat} (h0 : 0 < d) : In d n q ↔ ∃ k : Int, q = Rat.divInt k d ∧ k.natAbs ≤ n * d := by
  constructor
  · rintro ⟨⟨c, hc⟩, h2⟩
    have c0 : 0 < c := by
      rcases Nat.eq_zero_or_pos c with z | z
      · subst z; omega
      · exact z
    refine ⟨q.num * c, ?_, ?_⟩
    · have e : (d : Int) = q.den * c := by rw [hc]; simp
      rw [e, Rat.divInt_mul_right (by omega), q_self]
    · rw [hc, Int.natAbs_mul, Int.natAbs_natCast, ← Nat.mul_assoc]
      exact Nat.mul_le_mul_right c h2
  · rintro ⟨k, rfl, h2⟩
    have g := gcd_num k d (by omega)
    have g0 : 0 < Int.gcd k d := Int.gcd_pos_of_ne_zero_right _ (by omega)
    obtain ⟨a, ha⟩ : (Int.gcd k d : Int) ∣ k := Int.gcd_dvd_left _ _
    obtain ⟨b, hb⟩ : (Int.gcd k d) ∣ d := by
      have := Int.gcd_dvd_right k (d : Int)
      exact Int.natCast_dvd_natCast.mp this
    have e1 : (Rat.divInt k d).num = a := by
      rw [g.1]
      conv => lhs; lhs; rw [ha]
      exact Int.mul_ediv_cancel_left _ (by omega)
    have e2 : (Rat.divInt k d).den = b := by
      have h := g.2
      have hb' : (d : Int) = (Int.gcd k d : Int) * b := by exact_mod_cast hb
      have h3 : (d : Int) / (Int.gcd k d : Int) = b := by
        conv => lhs; lhs; rw [hb']
        exact Int.mul_ediv_cancel_left _ (by omega)
      omega
    refine ⟨by rw [e2]; exact ⟨Int.gcd k d, by rw [Nat.mul_comm]; exact hb⟩, ?_⟩
    rw [e1, e2]
    have h3 : k.natAbs = Int.gcd k d * a.natAbs := by
      conv => lhs; rw [ha]
      rw [Int.natAbs_mul, Int.natAbs_natCast]
    rw [h3] at h2
    have h4 : n * d = Int.gcd k d * (n * b) := by
      conv => lhs; rw [hb]
      rw [← Nat.mul_assoc, Nat.mul_comm n, Nat.mul_assoc]
    rw [h4] at h2
    exact Nat.le_of_mul_le_mul_left h2 g0
theorem In.add {d n m : Nat} {p q : Rat} (h0 : 0 < d) (h : In d n p) (h2 : In d m q) : In d (n + m) (p + q) := by
  obtain ⟨k, rfl, a⟩ := (in_iff h0).mp h
  obtain ⟨l, rfl, b⟩ := (in_iff h0).mp h2
  refine (in_iff h0).mpr ⟨k + l, ?_, ?_⟩
  · rw [Rat.divInt_add_divInt _ _ (by omega) (by omega), ← Int.add_mul, Rat.divInt_mul_right (by omega)]
  · rw [Nat.add_mul]; omega
theorem In.neg {d n : Nat} {p : Rat} (h : In d n p) : In d n (-p) := ⟨by simpa using h.1, by simpa using h.2⟩
theorem In.sub {d n m : Nat} {p q : Rat} (h0 : 0 < d) (h : In d n p) (h2 : In d m q) : In d (n + m) (p - q) := by
  rw [Rat.sub_eq_add_neg]
  exact h.add h0 h2.neg
theorem In.mul {d e n m : Nat} {p q : Rat} (h0 : 0 < d) (h1 : 0 < e) (h : In d n p) (h2 : In e m q) : In (d * e) (n * m) (p * q) := by
  obtain ⟨k, rfl, a⟩ := (in_iff h0).mp h
  obtain ⟨l, rfl, b⟩ := (in_iff h1).mp h2
  refine (in_iff (Nat.mul_pos h0 h1)).mpr ⟨k * l, ?_, ?_⟩
  · rw [Rat.divInt_mul_divInt]; simp
  · rw [Int.natAbs_mul]
    have := Nat.mul_le_mul a b
    have e2 : n * d * (m * e) = n * m * (d * e) := by
      rw [Nat.mul_assoc, Nat.mul_left_comm d, ← Nat.mul_assoc]
    omega
theorem In.dvd {d e n : Nat} {p : Rat} (h : In d n p) (h2 : d ∣ e) : In e n p := ⟨Nat.dvd_trans h.1 h2, h.2⟩
theorem In.le {d n m : Nat} {p : Rat} (h : In d n p) (h2 : n ≤ m) : In d m p := ⟨h.1, Nat.le_trans h.2 (Nat.mul_le_mul_right _ h2)⟩
theorem in_self (q : Rat) : In q.den q.num.natAbs q := ⟨Nat.dvd_refl _, Nat.le_mul_of_pos_right _ (Nat.pos_of_ne_zero q.den_nz)⟩
theorem in_int (i : Int) : In 1 i.natAbs (i : Rat) := ⟨by simp, by simp⟩
end DL

set_option Elab.async false
set_option linter.all false
set_option maxRecDepth 100000
/-! Reckoning: comprehensions, iterables, methods. -/
namespace DL
open PySem PySem.Spec L2
section
variable (f g h : F1) (e : DEnv) (fs : List F1)
def kOf (k : List D → Option (List D)) (ds : List D) (e : DEnv) : EO (List D) := match k ds with
  | some xs => .ok xs e
  | none => .bot
def oOf (e : DEnv) (o : Option (List D)) : EO (List D) := match o with
  | some xs => .ok xs e
  | none => .bot
theorem k_fiOf (o : EO (List D)) (k : List D → Option (List D)) : fiOf o k = o.bind (kOf k) := Eq.trans rfl rfl
theorem k_kOf (k : List D → Option (List D)) (ds : List D) : kOf k ds e = oOf e (k ds) := Eq.trans rfl rfl
theorem k_oOf (xs : List D) : oOf e (some xs) = .ok xs e := Eq.trans rfl rfl
theorem k_rng1 : fiRng1 f e = fiOf (eItems [f] e) rng1 := Eq.trans rfl rfl
theorem k_rng2 : fiRng2 f g e = fiOf (eItems [f, g] e) rng2 := Eq.trans rfl rfl
theorem k_enum : fiEnum f e = fiOf (eItems [f] e) enum1 := rfl
theorem k_zip : fiZip f g e = fiOf (eItems [f, g] e) zip2 := rfl
theorem k_enum1 (xs : List D) : enum1 [.lst xs] = some (enumL xs 0) := rfl
theorem k_zip2l (xs ys : List D) : zip2 [.lst xs, .lst ys] = some (zipL xs ys) := rfl
theorem k_zip2t (xs ys : List D) : zip2 [.tup xs, .tup ys] = some (zipL xs ys) := rfl
theorem rng1_ok (j : Int) (h : -(2 ^ 62) < j ∧ j < 2 ^ 62) : rng1 [.int j] = some (rngL 0 j.toNat) := if_pos (by omega)
theorem rng2_ok (i j : Int) (h : -(2 ^ 62) < i ∧ i < 2 ^ 62 ∧ -(2 ^ 62) < j ∧ j < 2 ^ 62) : rng2 [.int i, .int j] = some (rngL i (j - i).toNat) := if_pos (by omega)
theorem k_zipL (x y : D) (xs ys : List D) : zipL (x :: xs) (y :: ys) = .tup [x, y] :: zipL xs ys := rfl
theorem k_zipL0 (ys : List D) : zipL [] ys = [] := by cases ys <;> rfl
-- comprehensions
variable (tg : FG) (t : FB) (vs : List Nat)
def lcB (acc : EO (List D)) (e1 : DEnv) (vs : List Nat) : EO PV := match acc with
  | .ok acc e2 => .ok (.fresh (.lst acc)) (restE e1 e2 vs)
  | _ => .bot
def lcQ (tg : FG) (t : FB) (f : F1) (vs : List Nat) (xs : List D) (e1 : DEnv) (a b : Bool) : EO PV := if a = true ∧ b = true then lcB (compR tg t f vs xs [] (wipeE e1 vs)) e1 vs else .bot
def lcK (tg : FG) (t : FB) (f : F1) (vs : List Nat) (xs : List D) (e1 : DEnv) : EO PV := lcQ tg t f vs xs e1 (noOwn e1 vs) (decide (xs.length ≤ 1000000))
theorem k_lc (fi : FI) : eLc fi tg t f vs e = (fi e).bind (lcK tg t f vs) := by
  unfold eLc
  congr 1
  all_goals
    funext xs e1
    unfold lcK lcQ lcB
    by_cases a : noOwn e1 vs = true <;> by_cases b : xs.length ≤ 1000000 <;> simp only [a, b, decide_true, decide_false, and_self, if_true, and_true, true_and, if_false, Bool.false_eq_true, and_false, false_and]
    all_goals (cases compR tg t f vs xs [] (wipeE e1 vs) <;> rfl)
theorem k_lcK (xs : List D) : lcK tg t f vs xs e = lcQ tg t f vs xs e (noOwn e vs) (decide (xs.length ≤ 1000000)) := rfl
theorem k_lcQ (xs : List D) : lcQ tg t f vs xs e true true = lcB (compR tg t f vs xs [] (wipeE e vs)) e vs := rfl
theorem k_lcB (acc : List D) (e1 : DEnv) : lcB (.ok acc e) e1 vs = .ok (.fresh (.lst acc)) (restE e1 e vs) := rfl
theorem k_comp0 (acc : List D) : compR tg t f vs [] acc e = .ok acc e := rfl
theorem k_wipe0 : wipeE e [] = e := rfl
theorem k_wipe (v : Nat) : wipeE e (v :: vs) = (wipeE e vs).set v .no := rfl
theorem k_rest0 (e0 : DEnv) : restE e0 e [] = e := rfl
theorem k_rest (e0 : DEnv) (v : Nat) : restE e0 e (v :: vs) = (restE e0 e vs).set v (e0.getD v .no) := rfl
def nownC (c : Option Cell) : Bool := match c with
  | some (.own _) => false
  | _ => true
theorem k_nown0 : noOwn e [] = true := rfl
theorem k_nown (v : Nat) : noOwn e (v :: vs) = (nownC e[v]? && noOwn e vs) := rfl
theorem k_nown_val (d : D) : nownC (some (.val d)) = true := rfl
theorem k_nown_no : nownC (some .no) = true := rfl
-- one turn
def turnK (vs : List Nat) (o : Option (D × DEnv)) : EO (Option D) := match o with
  | some (d, e) => .ok (some d) (wipeE e vs)
  | none => .bot
def turnF (vs : List Nat) (p : PV) (e : DEnv) : EO (Option D) := turnK vs (frz p e)
def turnT (f : F1) (vs : List Nat) (k : Bool) (e : DEnv) : EO (Option D) := if k = true then (f e).bind (turnF vs) else .ok none (wipeE e vs)
def turnG (t : FB) (f : F1) (vs : List Nat) (o : Option DEnv) : EO (Option D) := match o with
  | some e1 => (t e1).bind (turnT f vs)
  | none => .bot
def turn (tg : FG) (t : FB) (f : F1) (vs : List Nat) (d : D) (e : DEnv) : EO (Option D) := turnG t f vs (tg d e)
theorem k_turn (d : D) : turn tg t f vs d e = turnG t f vs (tg d e) := rfl
theorem k_turnG : turnG t f vs (some e) = (t e).bind (turnT f vs) := rfl
theorem k_turnT (k : Bool) : turnT f vs k e = if k = true then (f e).bind (turnF vs) else .ok none (wipeE e vs) := rfl
theorem k_turnF (p : PV) : turnF vs p e = turnK vs (frz p e) := rfl
theorem k_turnK (d : D) : turnK vs (some (d, e)) = .ok (some d) (wipeE e vs) := rfl
theorem compR_cons {tg : FG} {t : FB} {f : F1} {vs : List Nat} {d : D} {ds acc : List D} {e e' : DEnv} {o : Option D} (h : turn tg t f vs d e = .ok o e') : compR tg t f vs (d :: ds) acc e = compR tg t f vs ds (acc ++ o.toList) e' := by
  unfold turn turnG turnT turnF turnK at h
  rw [compR]
  cases h1 : tg d e with
  | none => rw [h1] at h; cases h
  | some e1 =>
    rw [h1] at h
    dsimp only at h ⊢
    cases h2 : t e1 with
    | bot => rw [h2] at h; cases h
    | ex x e2 => rw [h2] at h; cases h
    | ok k e2 =>
      rw [h2] at h
      cases k with
      | false =>
        cases h
        simp
      | true =>
        dsimp only [EO.bind] at h ⊢
        simp only [if_true] at h
        cases h3 : f e2 with
        | bot => rw [h3] at h; cases h
        | ex x e3 => rw [h3] at h; cases h
        | ok p e3 =>
          rw [h3] at h
          dsimp only [EO.bind] at h ⊢
          cases h4 : frz p e3 with
          | none => rw [h4] at h; cases h
          | some z =>
            obtain ⟨d', e4⟩ := z
            rw [h4] at h
            cases h
            simp
def compS (tg : FG) (t : FB) (f : F1) (vs : List Nat) (ds acc : List D) (o : EO (Option D)) : EO (List D) := match o with
  | .ok o e => compR tg t f vs ds (acc ++ o.toList) e
  | _ => .bot
theorem k_comp_cons (tg : FG) (t : FB) (f : F1) (vs : List Nat) (d : D) (ds acc : List D) (e : DEnv) : compR tg t f vs (d :: ds) acc e = compS tg t f vs ds acc (turn tg t f vs d e) := by
  cases h : turn tg t f vs d e with
  | ok o e' => exact compR_cons h
  | ex x e' =>
    unfold turn turnG turnT turnF turnK at h
    rw [compR]
    cases h1 : tg d e with
    | none => rfl
    | some e1 =>
      rw [h1] at h
      dsimp only at h ⊢
      cases h2 : t e1 with
      | bot => rfl
      | ex x e2 => rfl
      | ok k e2 =>
        rw [h2] at h
        cases k with
        | false => cases h
        | true =>
          dsimp only [EO.bind] at h ⊢
          simp only [if_true] at h
          cases h3 : f e2 with
          | bot => rfl
          | ex x e3 => rfl
          | ok p e3 =>
            rw [h3] at h
            dsimp only [EO.bind] at h ⊢
            cases h4 : frz p e3 with
            | none => rfl
            | some z =>
              obtain ⟨d', e4⟩ := z
              rw [h4] at h
              cases h
  | bot =>
    unfold turn turnG turnT turnF turnK at h
    rw [compR]
    cases h1 : tg d e with
    | none => rfl
    | some e1 =>
      rw [h1] at h
      dsimp only at h ⊢
      cases h2 : t e1 with
      | bot => rfl
      | ex x e2 => rfl
      | ok k e2 =>
        rw [h2] at h
        cases k with
        | false => cases h
        | true =>
          dsimp only [EO.bind] at h ⊢
          simp only [if_true] at h
          cases h3 : f e2 with
          | bot => rfl
          | ex x e3 => rfl
          | ok p e3 =>
            rw [h3] at h
            dsimp only [EO.bind] at h ⊢
            cases h4 : frz p e3 with
            | none => rfl
            | some z =>
              obtain ⟨d', e4⟩ := z
              rw [h4] at h
              cases h
theorem k_compS (tg : FG) (t : FB) (f : F1) (vs : List Nat) (ds acc : List D) (o : Option D) (e : DEnv) : compS tg t f vs ds acc (.ok o e) = compR tg t f vs ds (acc ++ o.toList) e := rfl
theorem k_toL (d : D) : (some d).toList = [d] := rfl
theorem k_toL0 : (none : Option D).toList = [] := rfl
theorem compR_map {α : Type} {tg : FG} {t : FB} {f : F1} {vs : List Nat} {w : DEnv} (inp out : α → D) : ∀ (xs : List α) (acc : List D), (∀ x ∈ xs, turn tg t f vs (inp x) w = .ok (some (out x)) w) → compR tg t f vs (xs.map inp) acc w = .ok (acc ++ xs.map out) w
  | [], acc, _ => by simp [compR]
  | x :: xs, acc, h => by
    rw [List.map_cons, compR_cons (h x List.mem_cons_self), compR_map inp out xs _ fun y hy => h y (List.mem_cons_of_mem _ hy)]
    simp
theorem compR_filter {α : Type} {tg : FG} {t : FB} {f : F1} {vs : List Nat} {w : DEnv} (inp : α → D) (out : α → Option D) : ∀ (xs : List α) (acc : List D), (∀ x ∈ xs, turn tg t f vs (inp x) w = .ok (out x) w) → compR tg t f vs (xs.map inp) acc w = .ok (acc ++ xs.filterMap out) w
  | [], acc, _ => by simp [compR]
  | x :: xs, acc, h => by
    rw [List.map_cons, compR_cons (h x List.mem_cons_self), compR_filter inp out xs _ fun y hy => h y (List.mem_cons_of_mem _ hy)]
    rw [List.filterMap_cons]
    cases out x <;> simp
-- methods that change a list of one's own
def metG (i : Nat) (g : List D → List D → Option (D × List D)) (ds : List D) (e : DEnv) : EO PV := match e[i]? with
  | some (.own (.lst xs)) => match g xs ds with
    | some (d, ys) => .ok (.dat d) (e.set i (.own (.lst ys)))
    | none => .bot
  | _ => .bot
def metO (i : Nat) (e : DEnv) (o : Option (D × List D)) : EO PV := match o with
  | some (d, ys) => .ok (.dat d) (e.set i (.own (.lst ys)))
  | none => .bot
def metC (i : Nat) (g : List D → List D → Option (D × List D)) (ds : List D) (e : DEnv) (c : Option Cell) : EO PV := match c with
  | some (.own (.lst xs)) => metO i e (g xs ds)
  | _ => .bot
def metS (i : Nat) (g : List D → List D → Option (D × List D)) (fs : List F1) (e : DEnv) (c : Option Cell) : EO PV := match c with
  | some (.own (.lst _)) => (eItems fs e).bind (metG i g)
  | _ => .bot
theorem k_met (i : Nat) (g : List D → List D → Option (D × List D)) : eMet i g fs e = metS i g fs e e[i]? := rfl
theorem k_metS (i : Nat) (g : List D → List D → Option (D × List D)) (xs : List D) : metS i g fs e (some (.own (.lst xs))) = (eItems fs e).bind (metG i g) := rfl
theorem k_metG (i : Nat) (g : List D → List D → Option (D × List D)) (ds : List D) : metG i g ds e = metC i g ds e e[i]? := rfl
theorem k_metC (i : Nat) (g : List D → List D → Option (D × List D)) (xs ds : List D) : metC i g ds e (some (.own (.lst xs))) = metO i e (g xs ds) := rfl
theorem k_metO (i : Nat) (d : D) (ys : List D) : metO i e (some (d, ys)) = .ok (.dat d) (e.set i (.own (.lst ys))) := rfl
end
def appQ (xs : List D) (d : D) (b : Bool) : Option (D × List D) := if b = true then some (.non, xs ++ [d]) else none
theorem d_app (xs : List D) (d : D) : appD xs [d] = appQ xs d (decide (xs.length < 1000000)) := by
  show (if _ then _ else _) = _
  unfold appQ
  by_cases h : xs.length < 1000000 <;> simp [h]
theorem d_appQ (xs : List D) (d : D) : appQ xs d true = some (.non, xs ++ [d]) := rfl
theorem d_all0 : allD [.lst []] = some (.dat (.bl true)) := rfl
theorem blsOf_map {α : Type} (f : α → Bool) : ∀ xs : List α, blsOf (xs.map fun x => .bl (f x)) = some (xs.map f)
  | [] => rfl
  | x :: xs => by rw [List.map_cons, blsOf, blsOf_map f xs]; rfl
theorem all_map {α : Type} (f : α → Bool) (xs : List α) : allD [.lst (xs.map fun x => .bl (f x))] = some (.dat (.bl (xs.all f))) := by
  show (match blsOf _ with | some bs => _ | none => _) = _
  rw [blsOf_map]
  simp [List.all_map, Function.comp_def]
theorem d_all1 (a : Bool) : allD [.lst [.bl a]] = some (.dat (.bl a)) := by cases a <;> rfl
theorem d_all2 (a b : Bool) : allD [.lst [.bl a, .bl b]] = some (.dat (.bl (a && b))) := by cases a <;> cases b <;> rfl
theorem d_all4 (a b c d : Bool) : allD [.lst [.bl a, .bl b, .bl c, .bl d]] = some (.dat (.bl (a && (b && (c && d))))) := by cases a <;> cases b <;> cases c <;> cases d <;> rfl
theorem forR_nx {g : FG} {F : FS} {d : D} {ds : List D} {e e1 e2 : DEnv} (h1 : g d e = some e1) (h2 : F e1 = .nx e2) : forR g F (d :: ds) e = forR g F ds e2 := by rw [forR, h1]; dsimp only; rw [h2]
theorem forR_ct {g : FG} {F : FS} {d : D} {ds : List D} {e e1 e2 : DEnv} (h1 : g d e = some e1) (h2 : F e1 = .ct e2) : forR g F (d :: ds) e = forR g F ds e2 := by rw [forR, h1]; dsimp only; rw [h2]
/-- a loop that goes on from one stage to the next -/
theorem forR_map {α β : Type} {g : FG} {F : FS} (env : β → DEnv) (inp : α → D) (step : β → α → β) : ∀ (xs : List α) (b : β), (∀ b : β, ∀ x ∈ xs, ∃ e1, g (inp x) (env b) = some e1 ∧ (F e1 = .nx (env (step b x)) ∨ F e1 = .ct (env (step b x)))) → forR g F (xs.map inp) (env b) = .nx (env (xs.foldl step b))
  | [], b, _ => rfl
  | x :: xs, b, h => by
    obtain ⟨e1, h1, h2⟩ := h b x List.mem_cons_self
    rw [List.map_cons, forR, h1, List.foldl_cons]
    dsimp only
    have r := forR_map (g := g) (F := F) env inp step xs (step b x) fun b y hy => h b y (List.mem_cons_of_mem _ hy)
    rcases h2 with h2 | h2 <;> rw [h2] <;> exact r
/-- a loop with a relation between what stands in its slots and the items gone by -/
theorem forR_inv {α : Type} {g : FG} {F : FS} (inp : α → D) (P : List α → DEnv → Prop) : ∀ (xs pre : List α) (e : DEnv), (∀ (pre : List α) (x : α) (post : List α) (e : DEnv), pre ++ x :: post = pre ++ x :: post → x ∈ xs → P pre e → ∃ e1, g (inp x) e = some e1 ∧ ∃ e2, (F e1 = .nx e2 ∨ F e1 = .ct e2) ∧ P (pre ++ [x]) e2) → P pre e → ∃ e', forR g F (xs.map inp) e = .nx e' ∧ P (pre ++ xs) e'
  | [], pre, e, _, p => ⟨e, rfl, by simpa using p⟩
  | x :: xs, pre, e, h, p => by
    obtain ⟨e1, h1, e2, h2, p2⟩ := h pre x [] e rfl List.mem_cons_self p
    obtain ⟨e', h3, p3⟩ := forR_inv (g := g) (F := F) inp P xs (pre ++ [x]) e2 (fun pre y post e q hy => h pre y post e rfl (List.mem_cons_of_mem _ hy)) p2
    refine ⟨e', ?_, by simpa using p3⟩
    rw [List.map_cons, forR, h1]
    dsimp only
    rcases h2 with h2 | h2 <;> rw [h2] <;> exact h3
end DL

set_option Elab.async false
set_option linter.all false
set_option maxRecDepth 100000
set_option exponentiation.threshold 10000
/-! Sizes of what is walked through a bench. -/
namespace DL
open PySem PySem.Spec L2
/-- a part: its denominator and itself below 2^w -/
def Pw (w : Nat) (q : Rat) : Prop := q.den ≤ 2 ^ w ∧ In q.den (2 ^ w) q
/-- after k pieces: one denominator for all -/
def BigP (k w : Nat) (l : List Rat) : Prop := ∃ d, 0 < d ∧ d ≤ 2 ^ (w * k) ∧ ∀ y ∈ l, In d (2 ^ ((w + 1) * k)) y
theorem BigP.sz {k w : Nat} {l : List Rat} (h : BigP k w l) (hk : (2 * w + 1) * k < 4000) {y : Rat} (hy : y ∈ l) : Sz 4000 y := by
  obtain ⟨d, h0, h1, h2⟩ := h
  have e : (w + 1) * k + w * k = (2 * w + 1) * k := by rw [← Nat.add_mul]; congr 1; omega
  have e2 : w * k ≤ (2 * w + 1) * k := Nat.mul_le_mul_right _ (by omega)
  refine (h2 y hy).sz h0 ?_ ?_
  · exact Nat.lt_of_le_of_lt h1 (Nat.pow_lt_pow_right (by decide) (by omega))
  · have := Nat.mul_le_mul_left (2 ^ ((w + 1) * k)) h1
    rw [← Nat.pow_add, e] at this
    exact Nat.lt_of_le_of_lt this (Nat.pow_lt_pow_right (by decide) hk)
theorem Pw.sz {w : Nat} {q : Rat} (h : Pw w q) (hw : 2 * w < 4000) : Sz 4000 q := by
  refine h.2.sz (Nat.pos_of_ne_zero q.den_nz) ?_ ?_
  · exact Nat.lt_of_le_of_lt h.1 (Nat.pow_lt_pow_right (by decide) (by omega))
  · have := Nat.mul_le_mul_left (2 ^ w) h.1
    rw [← Nat.pow_add] at this
    exact Nat.lt_of_le_of_lt this (Nat.pow_lt_pow_right (by decide) (by omega))
theorem BigP.mulSz {k w : Nat} {l : List Rat} (h : BigP k w l) (hk : (2 * w + 1) * (k + 1) < 4000) {u q : Rat} (hu : u ∈ l) (hq : Pw w q) : Sz 4000 (q * u) := by
  obtain ⟨d, h0, h1, h2⟩ := h
  have p0 := Nat.pos_of_ne_zero q.den_nz
  have a := In.mul p0 h0 hq.2 (h2 u hu)
  have e2 : w * (k + 1) ≤ (2 * w + 1) * (k + 1) := Nat.mul_le_mul_right _ (by omega)
  have b : q.den * d ≤ 2 ^ (w * (k + 1)) := by
    have := Nat.mul_le_mul hq.1 h1
    rw [← Nat.pow_add] at this
    have e : w + w * k = w * (k + 1) := by rw [Nat.mul_succ]; omega
    rwa [e] at this
  refine a.sz (Nat.mul_pos p0 h0) ?_ ?_
  · exact Nat.lt_of_le_of_lt b (Nat.pow_lt_pow_right (by decide) (by omega))
  · have := Nat.mul_le_mul_left (2 ^ w * 2 ^ ((w + 1) * k)) b
    rw [← Nat.pow_add 2 w, ← Nat.pow_add] at this
    rw [← Nat.pow_add 2 w]
    have e : w + (w + 1) * k + w * (k + 1) ≤ (2 * w + 1) * (k + 1) := by
      have : (2 * w + 1) * (k + 1) = (w + 1) * (k + 1) + w * (k + 1) := by rw [← Nat.add_mul]; congr 1; omega
      have : (w + 1) * (k + 1) = (w + 1) * k + (w + 1) := Nat.mul_succ _ _
      omega
    exact Nat.lt_of_le_of_lt this (Nat.pow_lt_pow_right (by decide) (by omega))
/-- one piece more: each of the new ones is an old one, or one with a part times an old one put to it or taken off -/
theorem BigP.step {k w : Nat} {l l' : List Rat} {q : Rat} (h : BigP k w l) (hq : Pw w q) (hl : ∀ y ∈ l', y ∈ l ∨ ∃ a ∈ l, ∃ b ∈ l, y = a + q * b ∨ y = a - q * b) : BigP (k + 1) w l' := by
  obtain ⟨d, h0, h1, h2⟩ := h
  have p0 := Nat.pos_of_ne_zero q.den_nz
  have e1 : (2 : Nat) ^ ((w + 1) * (k + 1)) = 2 ^ ((w + 1) * k) * 2 ^ (w + 1) := by rw [← Nat.pow_add, Nat.mul_succ]
  have two : 2 ^ ((w + 1) * k) + 2 ^ w * 2 ^ ((w + 1) * k) ≤ 2 ^ ((w + 1) * (k + 1)) := by
    rw [e1, Nat.pow_succ]
    have a := Nat.one_le_two_pow (n := w)
    have : 2 ^ ((w + 1) * k) * 1 ≤ 2 ^ ((w + 1) * k) * 2 ^ w := Nat.mul_le_mul_left _ a
    rw [Nat.mul_comm (2 ^ w), ← Nat.mul_assoc]
    omega
  refine ⟨q.den * d, Nat.mul_pos p0 h0, ?_, fun y hy => ?_⟩
  · have := Nat.mul_le_mul hq.1 h1
    rw [← Nat.pow_add] at this
    have e : w + w * k = w * (k + 1) := by rw [Nat.mul_succ]; omega
    rwa [e] at this
  · have dv : d ∣ q.den * d := Nat.dvd_mul_left _ _
    rcases hl y hy with z | ⟨a, ha, b, hb, z⟩
    · exact ((h2 y z).dvd dv).le (by omega)
    · have m := In.mul p0 h0 hq.2 (h2 b hb)
      have n := (h2 a ha).dvd dv
      rcases z with z | z
      · rw [z]; exact (n.add (Nat.mul_pos p0 h0) m).le two
      · rw [z]; exact (n.sub (Nat.mul_pos p0 h0) m).le two
theorem BigP.mono {k w : Nat} {l l' : List Rat} (h : BigP k w l) (hl : ∀ y ∈ l', y ∈ l) : BigP k w l' := by
  obtain ⟨d, h0, h1, h2⟩ := h
  exact ⟨d, h0, h1, fun y hy => h2 y (hl y hy)⟩
theorem big0 (w : Nat) : BigP 0 w [1, 0, 0, 1] := ⟨1, by decide, by simp, fun y hy => by
  simp only [List.mem_cons, List.not_mem_nil, or_false] at hy
  have a : In 1 1 (1 : Rat) := ⟨by decide, by decide⟩
  have b : In 1 1 (0 : Rat) := ⟨by decide, by decide⟩
  rcases hy with rfl | rfl | rfl | rfl <;> simpa using by assumption⟩
/-- a small fraction -/
theorem pw_div {a b : Int} {w : Nat} (hb : 0 < b) (h1 : b.natAbs ≤ 2 ^ w) (h2 : a.natAbs ≤ 2 ^ w) : Pw w (Rat.divInt a b) := by
  obtain ⟨n, rfl⟩ := Int.eq_ofNat_of_zero_le (by omega : 0 ≤ b)
  have h0 : 0 < n := by omega
  have i : In n (2 ^ w) (Rat.divInt a n) := (in_iff h0).mpr ⟨a, rfl, Nat.le_trans h2 (Nat.le_mul_of_pos_right _ h0)⟩
  refine ⟨Nat.le_trans (Nat.le_of_dvd h0 i.1) (by simpa using h1), Nat.dvd_refl _, i.2⟩
theorem Pw.add {v w : Nat} {p q : Rat} (h : Pw v p) (h2 : Pw w q) : Pw (v + w + 1) (p + q) := by
  have p0 := Nat.pos_of_ne_zero p.den_nz
  have q0 := Nat.pos_of_ne_zero q.den_nz
  have a := (h.2.dvd (Nat.dvd_mul_right p.den q.den)).add (Nat.mul_pos p0 q0) (h2.2.dvd (Nat.dvd_mul_left q.den p.den))
  have b : p.den * q.den ≤ 2 ^ (v + w) := by rw [Nat.pow_add]; exact Nat.mul_le_mul h.1 h2.1
  refine ⟨Nat.le_trans (Nat.le_of_dvd (Nat.mul_pos p0 q0) a.1) (Nat.le_trans b (Nat.pow_le_pow_right (by decide) (by omega))), Nat.dvd_refl _, ?_⟩
  refine Nat.le_trans a.2 (Nat.mul_le_mul_right _ ?_)
  have c : 2 ^ v ≤ 2 ^ (v + w) := Nat.pow_le_pow_right (by decide) (by omega)
  have d : 2 ^ w ≤ 2 ^ (v + w) := Nat.pow_le_pow_right (by decide) (by omega)
  rw [Nat.pow_succ]
  omega
theorem Pw.le {v w : Nat} {p : Rat} (h : Pw v p) (h2 : v ≤ w) : Pw w p :=
  ⟨Nat.le_trans h.1 (Nat.pow_le_pow_right (by decide) h2), h.2.le (Nat.pow_le_pow_right (by decide) h2)⟩
end DL

set_option Elab.async false
set_option linter.all false
set_option maxRecDepth 100000
/-! A loop over a list that stays one's own. -/
namespace DL
open PySem PySem.Spec L2
theorem Sa.fxAdd {R : RC} {fx : List (Nat × V)} {s : SS} {i : Nat} {v : V} (a : Sa R fx s) (h : s.σ[i]? = some (some v)) : Sa R ((i, v) :: fx) s :=
  ⟨a.len, fun p hp => by
    rcases List.mem_cons.mp hp with z | z
    · rw [z]; exact h
    · exact a.fix p z, a.val, a.own, a.inj, a.dom⟩
theorem Sa.fxCut {R : RC} {fx : List (Nat × V)} {s : SS} {i : Nat} {v : V} (a : Sa R ((i, v) :: fx) s) : Sa R fx s :=
  ⟨a.len, fun p hp => a.fix p (List.mem_cons_of_mem _ hp), a.val, a.own, a.inj, a.dom⟩
theorem St2.fxCut {R : RC} {fx : List (Nat × V)} {s t : SS} {i : Nat} {v : V} (a : St2 R ((i, v) :: fx) s t) : St2 R fx s t := ⟨a.nx, Sa.fxCut a.ab⟩
/-- an end that is wanted at fewer -/
theorem SPost.fxAdd {R : RC} {fx : List (Nat × V)} {W : WX} {D : Ends} {s : SS} {o : SO} {i : Nat} {v : V} (h : SPost R fx W D s o) : SPost R ((i, v) :: fx) W D s o := by
  cases o with
  | nx e => exact fun t e1 x => h t e1 x.fxCut
  | bk e => exact fun t e1 x => h t e1 x.fxCut
  | ct e => exact fun t e1 x => h t e1 x.fxCut
  | rt p e => exact fun v t e1 x r f => h v t e1 x.fxCut r f
  | ex x' e => exact fun c d t e1 x r => h c d t e1 x.fxCut r
  | bot => exact h
section
variable {X : Cx} {fx : List (Nat × V)} {W : WX} {pos : Pos} {F : FS}
def forP (i : Nat) (g : FG) (F : FS) : Nat → Nat → FS
  | 0, _, _ => .bot
  | n + 1, k, e => match e[i]? with
    | some (.own (.lst xs)) => match xs[k]? with
      | none => .nx e
      | some d => match g d e with
        | none => .bot
        | some e1 => match F e1 with
          | .nx e2 => forP i g F n (k + 1) e2
          | .ct e2 => forP i g F n (k + 1) e2
          | .bk e2 => .nx e2
          | .rt p e2 => .rt p e2
          | .ex x e2 => .ex x e2
          | .bot => .bot
    | _ => .bot
def sForP (i : Nat) (g : FG) (F : FS) : FS := fun e => match e[i]? with
  | some (.own (.lst xs)) => forP i g F (xs.length + 1) 0 e
  | _ => .bot
theorem ds_forP {i : Nat} {x : Str} {px : Pos} {tg : Expr} {body : List Stmt} {g : FG} {sl : List Nat} (hp : PassesOwn (model X.prog X.w) X.A X.env X.xe) (hc : X.calm = true) (hN : X.N[i]? = some x) (hv : Vis X.env.scope x)
    (hg : ∀ v, DG X ((i, v) :: fx) sl tg g) (hb : ∀ v, DSs X ((i, v) :: fx) W body F)
    (hd : (x == ("__debug__" : Str)) = false := by decide) (hcd : (x == ("__classdict__" : Str)) = false := by decide)
    (hs : ∀ z, foldedSetIterable (.Name x px) X.env z = pure z := by intro _; rfl) : DS X fx W (.For tg (.Name x px) body [] pos) (sForP i g F) := by
  have G : PG X tg (fun v σ H Q => ∃ w, rdG (rc X) ((i, w) :: fx) sl g v σ H Q) := ⟨fun pins s σ H v u Q I r ⟨w, q⟩ => (hg w).run pins s σ H v u Q I r q⟩
  have B : PSs X body (fun D σ H => ∃ w, rdS (rc X) ((i, w) :: fx) W F D σ H) := ⟨fun pins s σ H D I ⟨w, q⟩ => (hb w).run pins s σ H D I q⟩
  refine PS.imp (ps_for hp hc (pi_list (pe_var hN hv hd hcd)) G B hs) fun D σ H q => ?_
  obtain ⟨e, A, a0, q⟩ := q
  unfold sForP at q
  split at q
  · rename_i xs0 he
    obtain ⟨l, ho, z1, z2, z3, vs, rfl, z4⟩ := a0.own i _ he
    refine ⟨.ref l, z1, l, rfl, ⟨vs, .inl (.inl z3)⟩, ?_⟩
    have a1 : Sa (rc X) ((i, .ref l) :: fx) ⟨σ, e, A, H⟩ := Sa.fxAdd a0 z1
    refine ⟨fun k m σ' H' => ∃ e' A', Sa (rc X) ((i, .ref l) :: fx) ⟨σ', e', A', H'⟩ ∧ St2 (rc X) fx ⟨σ, e, A, H⟩ ⟨σ', e', A', H'⟩ ∧ SPost (rc X) fx W D ⟨σ', e', A', H'⟩ (forP i g F m k e'), ⟨_, e, A, a1, .refl a0, q⟩, ?_⟩
    rintro k m σ' H' ⟨e', A', b1, st, h1⟩
    cases m with
    | zero => exact h1.elim
    | succ m =>
      unfold forP at h1
      split at h1
      · rename_i xs hx
        obtain ⟨l', ho', y1, y2, y3, ws, rfl, y4⟩ := b1.own i _ hx
        have hl := b1.fix (i, .ref l) List.mem_cons_self
        dsimp only at hl
        rw [y1] at hl
        cases hl
        have sq : SqL X.K H' l ws := .inl (.inl y3)
        split at h1
        · rename_i hk
          refine .inl ⟨⟨ws, sq, ?_⟩, h1 _ rfl (.refl (Sa.fxCut b1))⟩
          rw [RepL.length y4]
          exact List.getElem?_eq_none_iff.mp hk
        · rename_i d hk
          obtain ⟨v, hv1, hv2⟩ := RepL.get y4 hk
          refine .inr ⟨⟨ws, v, sq, hv1⟩, fun σ2 H2 => ∃ e2 A2, Sa (rc X) ((i, .ref l) :: fx) ⟨σ2, e2, A2, H2⟩ ∧ St2 (rc X) fx ⟨σ, e, A, H⟩ ⟨σ2, e2, A2, H2⟩ ∧ SPost (rc X) fx W D ⟨σ2, e2, A2, H2⟩ (forP i g F m (k + 1) e2), ?_, ?_⟩
          · rintro σ2 H2 ⟨e2, A2, w1, w2, w3⟩
            exact ⟨m, by omega, e2, A2, w1, w2, w3⟩
          · rintro y H2 ⟨rfl, hy⟩
            have e1 := hy ws sq
            rw [hv1] at e1
            cases e1
            split at h1
            · exact h1.elim
            · rename_i e3 hg3
              refine ⟨.ref l, e', A', d, e3, b1, hv2, hg3, fun t et t2 _ _ => ?_⟩
              obtain ⟨σ3, e3', A3, H3⟩ := t
              obtain rfl : e3' = e3 := et
              have base : St2 (rc X) fx ⟨σ, e, A, H⟩ ⟨σ3, e3', A3, H3⟩ := st.trans a0 t2.fxCut
              have h3 := SPost.later (Sa.fxCut b1) t2.fxCut h1
              refine ⟨.ref l, e3', A3, t2.ab, ?_⟩
              cases hF : F e3' with
              | nx e4 =>
                simp only [hF] at h3
                intro t4 et4 st4
                obtain ⟨σ4, e4', A4, H4⟩ := t4
                obtain rfl : e4' = e4 := et4
                exact ⟨_, A4, st4.ab, base.trans a0 st4.fxCut, SPost.later (Sa.fxCut t2.ab) st4.fxCut h3⟩
              | ct e4 =>
                simp only [hF] at h3
                intro t4 et4 st4
                obtain ⟨σ4, e4', A4, H4⟩ := t4
                obtain rfl : e4' = e4 := et4
                exact ⟨_, A4, st4.ab, base.trans a0 st4.fxCut, SPost.later (Sa.fxCut t2.ab) st4.fxCut h3⟩
              | bk e4 =>
                simp only [hF] at h3
                exact fun t4 et4 st4 => h3 t4 et4 st4.fxCut
              | rt p e4 =>
                simp only [hF] at h3
                exact fun v4 t4 et4 st4 r4 f4 => h3 v4 t4 et4 st4.fxCut r4 f4
              | ex x' e4 =>
                simp only [hF] at h3
                exact fun c4 d4 t4 et4 st4 r4 => h3 c4 d4 t4 et4 st4.fxCut r4
              | bot => simp only [hF] at h3; exact h3
      · exact h1.elim
  · exact q.elim
end
/-- a loop over which P stands, over a list of one's own that stays as it is -/
theorem forP_keep {i : Nat} {g : FG} {F : FS} {xs : List D} (P : DEnv → Prop) (hP : ∀ e, P e → e[i]? = some (.own (.lst xs))) (h : ∀ d ∈ xs, ∀ e, P e → ∃ e1, g d e = some e1 ∧ ∃ e2, (F e1 = .nx e2 ∨ F e1 = .ct e2) ∧ P e2) :
    ∀ (n k : Nat) (e : DEnv), n + k = xs.length → P e → ∃ e', forP i g F (n + 1) k e = .nx e' ∧ P e'
  | 0, k, e, hk, p => by
    refine ⟨e, ?_, p⟩
    rw [forP, hP e p]
    dsimp only
    rw [List.getElem?_eq_none_iff.mpr (by omega)]
  | n + 1, k, e, hk, p => by
    have hlt : k < xs.length := by omega
    obtain ⟨e1, h1, e2, h2, p2⟩ := h xs[k] (List.getElem_mem hlt) e p
    obtain ⟨e', h3, p3⟩ := forP_keep P hP h n (k + 1) e2 (by omega) p2
    refine ⟨e', ?_, p3⟩
    rw [forP, hP e p]
    dsimp only
    rw [List.getElem?_eq_getElem hlt]
    dsimp only
    rw [h1]
    dsimp only
    rcases h2 with h2 | h2 <;> rw [h2] <;> exact h3
theorem sForP_keep {i : Nat} {g : FG} {F : FS} {xs : List D} (P : DEnv → Prop) (hP : ∀ e, P e → e[i]? = some (.own (.lst xs))) (h : ∀ d ∈ xs, ∀ e, P e → ∃ e1, g d e = some e1 ∧ ∃ e2, (F e1 = .nx e2 ∨ F e1 = .ct e2) ∧ P e2) {e : DEnv} (p : P e) :
    ∃ e', sForP i g F e = .nx e' ∧ P e' := by
  unfold sForP
  rw [hP e p]
  exact forP_keep P hP h _ 0 e (by omega) p
/-- data is the same as itself -/
theorem deq_self : ∀ (n : Nat) (d : D), flt n d = true → deq d d = true
  | n, .non, _ => q_non
  | n, .bl b, _ => by rw [q_bl]; simp
  | n, .int i, _ => by rw [q_int]; simp
  | n, .str x, _ => by rw [q_str]; exact beq_self_eq_true x
  | 0, .tup _, h => by simp [flt] at h
  | 0, .lst _, h => by simp [flt] at h
  | 0, .dct _ _, h => by simp [flt] at h
  | 0, .ins _ _ _, h => by simp [flt] at h
  | 0, .exn _ _, h => by simp [flt] at h
  | 0, .adr _, h => by simp [flt] at h
  | n + 1, .adr _, h => by simp [flt] at h
  | n + 1, .exn _ _, h => by simp [flt] at h
  | n + 1, .dct _ _, h => by simp [flt] at h
  | n + 1, .ins _ _ _, h => by simp [flt] at h
  | n + 1, .tup ds, h => by
    rw [q_tup]
    exact deqs_self' (deq_self n) ds (by simpa [flt] using h)
  | n + 1, .lst ds, h => by
    rw [q_lst]
    exact deqs_self' (deq_self n) ds (by simpa [flt] using h)
where
  deqs_self' {n : Nat} (hd : ∀ d : D, flt n d = true → deq d d = true) : ∀ ds : List D, ds.all (flt n) = true → deqs ds ds = true
    | [], _ => q_nil
    | d :: ds, h => by
      rw [List.all_cons, Bool.and_eq_true] at h
      rw [q_cons, hd d h.1, deqs_self' hd ds h.2]
      rfl
theorem deqs_self {n : Nat} {ds : List D} (h : ds.all (flt n) = true) : deqs ds ds = true := by
  have := deq_self (n + 1) (.lst ds) (by simpa [flt] using h)
  rwa [q_lst] at this
end DL

set_option Elab.async false
set_option linter.all false
set_option maxRecDepth 100000
/-! An owned list is lent to an expression: where nothing that comes back can reach it, it stays one's own. -/
namespace DL
open PySem PySem.Spec L2
def ownFlat (c : Cell) : Bool := match c with
  | .own d => nolstE d
  | _ => true
def pvFlat (p : PV) : Bool := match p with
  | .dat d => nolst d
  | .fresh d => nolstE d
  | .pk _ => false
open Classical in
noncomputable def borEnd (i : Nat) (e e1 : DEnv) (o : EO PV) : EO PV := match o with
  | .ok p e2 => if e2 = e1 ∧ pvFlat p = true ∧ (e.set i .no).all ownFlat = true then .ok p e else .bot
  | _ => .bot
noncomputable def borIn (i : Nat) (f : F1) (e : DEnv) (c : Option Cell) : EO PV := match c with
  | some (.own (.lst xs)) => borEnd i e (e.set i (.val (.lst xs))) (f (e.set i (.val (.lst xs))))
  | _ => f e
noncomputable def eBor (i : Nat) (f : F1) : F1 := fun e => borIn i f e e[i]?
section
variable {X : Cx} {fx : List (Nat × V)} {W : WX} {a : Expr} {f : F1}
theorem own_set_val {e : DEnv} {i j : Nat} {d d' : D} (h : (e.set i (.val d))[j]? = some (.own d')) : i ≠ j ∧ e[j]? = some (.own d') := by
  by_cases z : i = j
  · subst z
    rcases Nat.lt_or_ge i e.length with q | q
    · rw [List.getElem?_set_self q] at h; cases h
    · rw [List.getElem?_eq_none_iff.mpr (by simpa using q)] at h; cases h
  · rw [List.getElem?_set_ne z] at h
    exact ⟨z, h⟩
theorem set_get_val {e : DEnv} {i : Nat} {d : D} (hi : i < e.length) (j : Nat) (c : Cell) (z : (e.set i (.val d))[j]? = some c) : (j = i ∧ c = .val d) ∨ (j ≠ i ∧ e[j]? = some c) := by
  by_cases hj : j = i
  · subst hj
    rw [List.getElem?_set_self hi] at z
    exact .inl ⟨rfl, (Option.some.inj z).symm⟩
  · rw [List.getElem?_set_ne (Ne.symm hj)] at z
    exact .inr ⟨hj, z⟩
/-- the state in which the list is lent -/
theorem lent {R : RC} {fx : List (Nat × V)} {s : SS} {i : Nat} {d : D} {l : Addr} {ho : HO} (a : Sa R fx s) (hc : s.e[i]? = some (.own d)) (h1 : s.σ[i]? = some (some (.ref l))) (hl : s.H l = some ho) (q : OwnR R (hid s.A s.H) d ho) : Sa R fx (s.rel l (s.e.set i (.val d))) := by
  have hi : i < s.e.length := (List.getElem?_eq_some_iff.mp hc).1
  have rp : Rep R (hid (fun b => b ≠ l ∧ s.A b) s.H) d (.ref l) := OwnR.rep (OwnR.le rel_hid q) (hid_some.mpr ⟨fun z => z.1 rfl, hl⟩)
  refine ⟨by show s.σ.length = (s.e.set i (.val d)).length; rw [List.length_set]; exact a.len, a.fix, fun j dj z => ?_, fun j dj z => ?_, fun j k dj dk c z1 z2 => ?_, fun c z => a.dom c z.2⟩
  · rcases set_get_val hi j _ z with ⟨rfl, z3⟩ | ⟨hj, z3⟩
    · cases z3
      exact ⟨.ref l, h1, rp⟩
    · obtain ⟨w, q1, q2⟩ := a.val j dj z3
      exact ⟨w, q1, Rep.le rel_hid _ _ q2⟩
  · rcases set_get_val hi j _ z with ⟨rfl, z3⟩ | ⟨hj, z3⟩
    · cases z3
    · obtain ⟨l', ho', q1, q2, q3, q4⟩ := a.own j dj z3
      refine ⟨l', ho', q1, ⟨fun q => ?_, q2⟩, q3, q4.le rel_hid⟩
      subst q
      exact hj (a.inj j i dj d _ z3 hc q1 h1)
  · rcases set_get_val hi j _ z1 with ⟨_, z3⟩ | ⟨hj, z3⟩
    · cases z3
    · rcases set_get_val hi k _ z2 with ⟨_, z4⟩ | ⟨hk, z4⟩
      · cases z4
      · exact a.inj j k dj dk c z3 z4
/-- it is given back -/
theorem given {R : RC} {fx : List (Nat × V)} {s t : SS} {i : Nat} {xs : List D} {l : Addr} {vs : List V} {v : V} {p : PV} (a : Sa R fx s) (hc : s.e[i]? = some (.own (.lst xs))) (h1 : s.σ[i]? = some (some (.ref l))) (hA : s.A l) (hl : s.H l = some (.lst vs)) (q : RepL R (hid s.A s.H) xs vs)
    (st : St1 R fx (s.rel l (s.e.set i (.val (.lst xs)))) t) (et : t.e = s.e.set i (.val (.lst xs))) (hp : pvFlat p = true) (ho : (s.e.set i .no).all ownFlat = true) (r : Sr R t v p) (fr : Fr s.H v p) :
    St1 R fx s ⟨t.σ, s.e, fun b => t.A b ∨ b = l, t.H⟩ ∧ Sr R ⟨t.σ, s.e, fun b => t.A b ∨ b = l, t.H⟩ v p := by
  have hi : i < s.e.length := (List.getElem?_eq_some_iff.mp hc).1
  have ls := lent a hc h1 hl ⟨vs, rfl, q⟩
  have eσ : t.σ = s.σ := st.eq
  have ml : s.M l := ⟨i, _, hc, h1⟩
  have own' : ∀ c, Own s.σ (s.e.set i (.val (.lst xs))) c → Own s.σ s.e c ∧ c ≠ l := fun c z => by
    obtain ⟨j, dj, z1, z2⟩ := z
    rcases set_get_val hi j _ z1 with ⟨_, z3⟩ | ⟨hj, z3⟩
    · cases z3
    · refine ⟨⟨j, dj, z3, z2⟩, fun q => ?_⟩
      subst q
      exact hj (a.inj j i dj _ c z3 hc z2 h1)
  have nM : ¬ (s.rel l (s.e.set i (.val (.lst xs)))).M l := fun z => (own' l z).2 rfl
  have tl : t.H l = some (.lst vs) := st.nx.keep l _ nM hl
  have nA : ¬ t.A l := fun z => by
    rcases st.nx.sub l z with z' | z'
    · exact z'.1 rfl
    · have : s.H l = none := z'
      rw [hl] at this; cases this
  have nx : Sn s ⟨t.σ, s.e, fun b => t.A b ∨ b = l, t.H⟩ := by
    refine ⟨fun b o m e => st.nx.keep b o (fun z => m (own' b z).1) e, fun b z => ?_, fun b z => ?_, fun b z m => ?_, st.nx.there⟩
    · rcases z with z | z
      · rcases st.nx.sub b z with z' | z'
        · exact .inl z'.2
        · exact .inr z'
      · subst z; exact .inl hA
    · have z' : Own t.σ s.e b := z
      rw [eσ] at z'
      exact .inl z'
    · have nb : b ≠ l := fun q => m (by subst q; exact ml)
      exact .inl (st.nx.sup b ⟨nb, z⟩ fun z' => m (own' b z').1)
  have hle := nx.hid a
  have hB : ∀ b, b = l → (∃ vs, t.H b = some (.lst vs)) ∨ ∃ kvs, t.H b = some (.dK kvs) := fun b z => by subst z; exact .inl ⟨_, tl⟩
  refine ⟨⟨eσ, nx, Kp.refl, ?_⟩, ?_⟩
  · refine ⟨by show t.σ.length = s.e.length; rw [eσ]; exact a.len, fun p hp => by show t.σ[p.1]? = _; rw [eσ]; exact a.fix p hp, fun j d z => ?_, fun j d z => ?_, fun j k d d' c z1 z2 => ?_, fun b z => ?_⟩
    · obtain ⟨w, q1, q2⟩ := a.val j d z
      exact ⟨w, by show t.σ[j]? = _; rw [eσ]; exact q1, Rep.le hle _ _ q2⟩
    · by_cases hj : j = i
      · subst hj
        have z' : s.e[j]? = some (.own d) := z
        rw [hc] at z'
        cases z'
        exact ⟨l, _, by show t.σ[j]? = _; rw [eσ]; exact h1, .inr rfl, tl, vs, rfl, RepL.le hle _ _ q⟩
      · have z' : t.e[j]? = some (.own d) := by rw [et, List.getElem?_set_ne (Ne.symm hj)]; exact z
        obtain ⟨l', ho', q1, q2, q3, q4⟩ := st.ab.own j d z'
        refine ⟨l', ho', q1, .inl q2, q3, ?_⟩
        have hf : nolstE d = true := by
          have z'' : (s.e.set i .no)[j]? = some (.own d) := by rw [List.getElem?_set_ne (Ne.symm hj)]; exact z
          exact List.all_eq_true.mp ho _ (List.mem_of_getElem? z'')
        exact nolst_own (B := fun b => b = l) hB hf q4
    · have z3 : t.σ[j]? = some (some (.ref c)) → t.σ[k]? = some (some (.ref c)) → j = k := by
        rw [eσ]
        exact a.inj j k d d' c z1 z2
      exact z3
    · rcases z with z | z
      · exact st.ab.dom b z
      · subst z; exact ⟨_, tl⟩
  · cases p with
    | dat d => exact nolst_rep (B := fun b => b = l) hB d v hp r
    | pk j => cases hp
    | fresh d =>
      obtain ⟨l2, ho2, rfl, y1, y2, y3, y4⟩ := r
      refine ⟨l2, ho2, rfl, .inl y1, fun z => ?_, y3, nolst_own (B := fun b => b = l) hB hp y4⟩
      have z' : Own t.σ s.e l2 := z
      obtain ⟨j, dj, w1, w2⟩ := z'
      by_cases hj : j = i
      · subst hj
        rw [eσ, h1] at w2
        cases w2
        exact nA y1
      · exact y2 ⟨j, dj, by rw [et, List.getElem?_set_ne (Ne.symm hj)]; exact w1, w2⟩
theorem de_bor (i : Nat) (h : DE X fx W a f) : DE X fx W a (eBor i f) := PE.imp h fun σ H Q q => by
  obtain ⟨e, A, a0, q⟩ := q
  unfold eBor borIn at q
  split at q
  · rename_i xs he
    obtain ⟨l, ho, z1, z2, z3, vs, rfl, z4⟩ := a0.own i _ he
    refine ⟨_, _, lent (s := ⟨σ, e, A, H⟩) a0 he z1 z3 ⟨vs, rfl, z4⟩, ?_⟩
    unfold borEnd at q
    show EPost (RE (rc X) fx) W (SS.rel ⟨σ, e, A, H⟩ l (e.set i (.val (.lst xs)))) Q (f (e.set i (.val (.lst xs))))
    split at q
    · rename_i p e2 ho
      split at q
      · rename_i hh
        obtain ⟨h1, h2, h3⟩ := hh
        rw [ho]
        intro v t et st r
        have g := given (s := ⟨σ, e, A, H⟩) a0 he z1 z2 z3 z4 st (et.trans h1) h2 h3 r.1 r.2
        exact q v ⟨t.σ, e, fun b => t.A b ∨ b = l, t.H⟩ rfl g.1 ⟨g.2, r.2⟩
      · exact q.elim
    · exact q.elim
  · exact ⟨e, A, a0, q⟩
end
theorem k_bor (i : Nat) (f : F1) (e : DEnv) : eBor i f e = borIn i f e e[i]? := rfl
theorem k_borIn_own (i : Nat) (f : F1) (e : DEnv) (xs : List D) : borIn i f e (some (.own (.lst xs))) = borEnd i e (e.set i (.val (.lst xs))) (f (e.set i (.val (.lst xs)))) := rfl
theorem k_borIn_val (i : Nat) (f : F1) (e : DEnv) (d : D) : borIn i f e (some (.val d)) = f e := rfl
def borQ (p : PV) (e : DEnv) (b : Bool) : EO PV := if b = true then .ok p e else .bot
theorem k_borEnd (i : Nat) (e e1 : DEnv) (p : PV) : borEnd i e e1 (.ok p e1) = borQ p e (pvFlat p && (e.set i .no).all ownFlat) := by
  unfold borEnd borQ
  by_cases h : pvFlat p = true <;> by_cases h2 : (e.set i .no).all ownFlat = true <;> simp [h, h2]
theorem k_borQ (p : PV) (e : DEnv) : borQ p e true = .ok p e := rfl
theorem k_pvf_dat (d : D) : pvFlat (.dat d) = nolst d := rfl
theorem k_pvf_fresh (d : D) : pvFlat (.fresh d) = nolstE d := rfl
theorem k_own_own (d : D) : ownFlat (.own d) = nolstE d := rfl
theorem k_own_val (d : D) : ownFlat (.val d) = true := rfl
theorem k_own_no : ownFlat .no = true := rfl
theorem k_nl_int (i : Int) : nolst (.int i) = true := rfl
theorem k_nl_bl (i : Bool) : nolst (.bl i) = true := rfl
theorem k_nl_str (i : Str) : nolst (.str i) = true := rfl
theorem k_nl_non : nolst .non = true := rfl
end DL

set_option Elab.async false
set_option linter.all false
set_option maxRecDepth 100000
set_option exponentiation.threshold 10000
/-! Sizes, put together by rules. -/
namespace DL
open PySem PySem.Spec L2
theorem divInt_1 (f : Int) : Rat.divInt f 1 = (f : Rat) := by have := Rat.num_divInt_den (f : Rat); simpa using this
theorem Sz.le {n m : Nat} {q : Rat} (h : Sz n q) (h2 : n ≤ m) : Sz m q :=
  ⟨Nat.lt_of_lt_of_le h.1 (Nat.pow_le_pow_right (by decide) h2), Nat.lt_of_lt_of_le h.2 (Nat.pow_le_pow_right (by decide) h2)⟩
theorem Sz.ofDiv {n m : Nat} {a b : Int} (h0 : 0 < b) (h : a.natAbs < 2 ^ n) (h2 : b.natAbs < 2 ^ m) : Sz (n + m) (Rat.divInt a b) := by
  have g := gcd_num a b h0
  have g0 : 0 < Int.gcd a b := Int.gcd_pos_of_ne_zero_right _ (by omega)
  have e1 : (a / (Int.gcd a b : Int)).natAbs ≤ a.natAbs := by
    rw [Int.natAbs_ediv_of_dvd (Int.gcd_dvd_left _ _)]
    exact Nat.div_le_self _ _
  have e2 : (b / (Int.gcd a b : Int)).natAbs ≤ b.natAbs := by
    rw [Int.natAbs_ediv_of_dvd (Int.gcd_dvd_right _ _)]
    exact Nat.div_le_self _ _
  refine ⟨?_, ?_⟩
  · rw [g.1]
    exact Nat.lt_of_lt_of_le (Nat.lt_of_le_of_lt e1 h) (Nat.pow_le_pow_right (by decide) (by omega))
  · have e3 : (Rat.divInt a b).den = (b / (Int.gcd a b : Int)).natAbs := by rw [← g.2]; simp
    rw [e3]
    exact Nat.lt_of_lt_of_le (Nat.lt_of_le_of_lt e2 h2) (Nat.pow_le_pow_right (by decide) (by omega))
theorem Sz.ofDiv' {n : Nat} {a b : Int} (h0 : 0 < b) (h : a.natAbs < 2 ^ n) (h2 : b.natAbs < 2 ^ n) : Sz n (Rat.divInt a b) := by
  have g := gcd_num a b h0
  have e1 : (a / (Int.gcd a b : Int)).natAbs ≤ a.natAbs := by
    rw [Int.natAbs_ediv_of_dvd (Int.gcd_dvd_left _ _)]
    exact Nat.div_le_self _ _
  have e2 : (b / (Int.gcd a b : Int)).natAbs ≤ b.natAbs := by
    rw [Int.natAbs_ediv_of_dvd (Int.gcd_dvd_right _ _)]
    exact Nat.div_le_self _ _
  refine ⟨?_, ?_⟩
  · rw [g.1]
    exact Nat.lt_of_le_of_lt e1 h
  · have e3 : (Rat.divInt a b).den = (b / (Int.gcd a b : Int)).natAbs := by rw [← g.2]; simp
    rw [e3]
    exact Nat.lt_of_le_of_lt e2 h2
theorem pow_lt_of {a n : Nat} (h : a < 2 ^ n) : a < 2 ^ (n + 1) := Nat.lt_of_lt_of_le h (Nat.pow_le_pow_right (by decide) (by omega))
theorem Sz.add {n m : Nat} {p q : Rat} (h : Sz n p) (h2 : Sz m q) : Sz (n + m + 1) (p + q) := by
  rw [← q_add]
  have a := den_pos' p
  have b := den_pos' q
  have x := mul_lt h.1 h2.2
  have y := mul_lt h2.1 h.2
  have z := mul_lt h.2 h2.2
  refine .ofDiv' (Int.mul_pos a b) ?_ ?_
  · refine Nat.lt_of_le_of_lt (Int.natAbs_add_le _ _) ?_
    rw [Int.natAbs_mul, Int.natAbs_mul, Int.natAbs_natCast, Int.natAbs_natCast, Nat.pow_succ]
    rw [Nat.add_comm m n] at y
    omega
  · rw [Int.natAbs_mul, Int.natAbs_natCast, Int.natAbs_natCast]
    exact pow_lt_of z
theorem Sz.neg {n : Nat} {p : Rat} (h : Sz n p) : Sz n (-p) := ⟨by simpa using h.1, by simpa using h.2⟩
theorem Sz.sub {n m : Nat} {p q : Rat} (h : Sz n p) (h2 : Sz m q) : Sz (n + m + 1) (p - q) := by
  rw [Rat.sub_eq_add_neg]
  exact h.add h2.neg
theorem Sz.mul {n m : Nat} {p q : Rat} (h : Sz n p) (h2 : Sz m q) : Sz (n + m) (p * q) := by
  rw [← q_mul]
  have x := mul_lt h.1 h2.1
  have z := mul_lt h.2 h2.2
  refine .ofDiv' (Int.mul_pos (den_pos' p) (den_pos' q)) ?_ ?_
  · rw [Int.natAbs_mul]; exact x
  · rw [Int.natAbs_mul, Int.natAbs_natCast, Int.natAbs_natCast]; exact z
theorem Sz.inv {n : Nat} {q : Rat} (h : Sz n q) : Sz n q⁻¹ := by
  by_cases h0 : q = 0
  · subst h0
    simp only [Rat.inv_zero]
    exact h
  · have e : q⁻¹ = Rat.divInt q.den q.num := by
      conv => lhs; rw [← q_self q]
      rw [Rat.inv_divInt]
    have n0 : q.num ≠ 0 := fun z => h0 (Rat.num_eq_zero.mp z)
    rw [e]
    rcases Int.lt_trichotomy q.num 0 with c | c | c
    · rw [divInt_neg']
      refine .ofDiv' (by omega) ?_ ?_
      · rw [Int.natAbs_neg, Int.natAbs_natCast]; exact h.2
      · rw [Int.natAbs_neg]; exact h.1
    · exact absurd c n0
    · refine .ofDiv' c ?_ h.1
      rw [Int.natAbs_natCast]; exact h.2
theorem Sz.div {n m : Nat} {p q : Rat} (h : Sz n p) (h2 : Sz m q) : Sz (n + m) (p / q) := by
  rw [Rat.div_def]
  exact h.mul h2.inv
theorem Sz.zero : Sz 1 0 := ⟨by decide, by decide⟩
theorem Sz.one : Sz 1 1 := ⟨by decide, by decide⟩
theorem Sz.ofInt {n : Nat} {i : Int} (h : i.natAbs < 2 ^ n) : Sz (n + 1) (i : Rat) := by
  refine ⟨?_, ?_⟩
  · rw [Rat.num_intCast]; exact pow_lt_of h
  · rw [Rat.den_intCast, Nat.pow_succ]
    have := Nat.one_le_two_pow (n := n)
    omega
theorem Pw.neg {w : Nat} {q : Rat} (h : Pw w q) : Pw w (-q) := ⟨by simpa using h.1, by simpa using h.2.1, by simpa using h.2.2⟩
theorem Pw.sub {v w : Nat} {p q : Rat} (h : Pw v p) (h2 : Pw w q) : Pw (v + w + 1) (p - q) := by
  rw [Rat.sub_eq_add_neg]
  exact h.add h2.neg
theorem Pw.zero (w : Nat) : Pw w 0 := ⟨Nat.one_le_two_pow, Nat.dvd_refl _, by simp⟩
theorem Pw.one (w : Nat) : Pw w 1 := ⟨Nat.one_le_two_pow, Nat.dvd_refl _, by simpa using Nat.one_le_two_pow⟩
theorem Pw.sz' {w n : Nat} {q : Rat} (h : Pw w q) (hn : 2 * w + 1 ≤ n) : Sz n q := by
  refine h.2.sz (Nat.pos_of_ne_zero q.den_nz) ?_ ?_
  · exact Nat.lt_of_le_of_lt h.1 (Nat.pow_lt_pow_right (by decide) (by omega))
  · have := Nat.mul_le_mul_left (2 ^ w) h.1
    rw [← Nat.pow_add] at this
    exact Nat.lt_of_le_of_lt this (Nat.pow_lt_pow_right (by decide) (by omega))
theorem BigP.sz' {k w n : Nat} {l : List Rat} (h : BigP k w l) (hk : (2 * w + 1) * k < n) {y : Rat} (hy : y ∈ l) : Sz n y := by
  obtain ⟨d, h0, h1, h2⟩ := h
  have e : (w + 1) * k + w * k = (2 * w + 1) * k := by rw [← Nat.add_mul]; congr 1; omega
  have e2 : w * k ≤ (2 * w + 1) * k := Nat.mul_le_mul_right _ (by omega)
  refine (h2 y hy).sz h0 ?_ ?_
  · exact Nat.lt_of_le_of_lt h1 (Nat.pow_lt_pow_right (by decide) (by omega))
  · have := Nat.mul_le_mul_left (2 ^ ((w + 1) * k)) h1
    rw [← Nat.pow_add, e] at this
    exact Nat.lt_of_le_of_lt this (Nat.pow_lt_pow_right (by decide) hk)
theorem BigP.more {k k' w : Nat} {l : List Rat} (h : BigP k w l) (hk : k ≤ k') : BigP k' w l := by
  obtain ⟨d, h0, h1, h2⟩ := h
  exact ⟨d, h0, Nat.le_trans h1 (Nat.pow_le_pow_right (by decide) (Nat.mul_le_mul_left _ hk)), fun y hy => (h2 y hy).le (Nat.pow_le_pow_right (by decide) (Nat.mul_le_mul_left _ hk))⟩
end DL

set_option Elab.async false
set_option linter.all false
set_option maxRecDepth 100000
set_option exponentiation.threshold 10000
/-! Pieces, tables and rays as plain fractions. -/
namespace DL
open PySem PySem.Spec L2
inductive Pc where
  | gap (q : Rat)
  | glass (q : Rat)
  | stop (a b : Rat)
def pD : Pc → D
  | .gap q => .tup [.str "gap", qD q]
  | .glass q => .tup [.str "glass", qD q]
  | .stop a b => .tup [.str "stop", qD a, qD b]
def okPc (n : Nat) : Pc → Prop
  | .gap q => Sz n q
  | .glass q => Sz n q
  | .stop a b => Sz n a ∧ Sz n b ∧ ¬ b < a
def PcW (w : Nat) : Pc → Prop
  | .gap q => Pw w q
  | .glass q => Pw w q
  | .stop a b => Pw w a ∧ Pw w b ∧ ¬ b < a
theorem PcW.ok' {w n : Nat} (hw : 2 * w + 1 ≤ n) : ∀ {p : Pc}, PcW w p → okPc n p
  | .gap _, h => Pw.sz' h hw
  | .glass _, h => Pw.sz' h hw
  | .stop _ _, h => ⟨Pw.sz' h.1 hw, Pw.sz' h.2.1 hw, h.2.2⟩
theorem PcW.ok {w : Nat} (hw : 2 * w < 4000) : ∀ {p : Pc}, PcW w p → okPc 4000 p := fun h => PcW.ok' (by omega) h
theorem PcW.le {v w : Nat} (hw : v ≤ w) : ∀ {p : Pc}, PcW v p → PcW w p
  | .gap _, h => Pw.le h hw
  | .glass _, h => Pw.le h hw
  | .stop _ _, h => ⟨Pw.le h.1 hw, Pw.le h.2.1 hw, h.2.2⟩
theorem okPc.le {n m : Nat} (h : n ≤ m) : ∀ {p : Pc}, okPc n p → okPc m p
  | .gap _, z => Sz.le z h
  | .glass _, z => Sz.le z h
  | .stop _ _, z => ⟨Sz.le z.1 h, Sz.le z.2.1 h, z.2.2⟩
def isStop : Pc → Bool
  | .stop _ _ => true
  | _ => false
theorem nol_qD (q : Rat) : nolst (qD q) = true := by simp [qD, nolst, nolsts]
theorem nol_pD (p : Pc) : nolst (pD p) = true := by cases p <;> simp [pD, qD, nolst, nolsts]
theorem nol_pDs : ∀ ps : List Pc, nolsts (ps.map pD) = true
  | [] => rfl
  | p :: ps => by simp [nolsts, nol_pD, nol_pDs ps]
theorem nolE_pDs (ps : List Pc) : nolstE (.lst (ps.map pD)) = true := nol_pDs ps
theorem flat_pD (n : Nat) (p : Pc) : flt (n + 2) (pD p) = true := by
  have g : PyData.strOk ("gap" : Str) = true := by decide +kernel
  have h : PyData.strOk ("glass" : Str) = true := by decide +kernel
  have k : PyData.strOk ("stop" : Str) = true := by decide +kernel
  cases p <;> simp only [pD, flt, qD, List.all_cons, List.all_nil, g, h, k, Bool.and_true]
theorem flt_pD (p : Pc) : flt 2 (pD p) = true := flat_pD 0 p
theorem flt_pDs (ps : List Pc) : (ps.map pD).all (flt 2) = true := by
  rw [List.all_map, List.all_eq_true]
  intro p _
  exact flt_pD p
theorem deqs_pDs (ps : List Pc) : deqs (ps.map pD) (ps.map pD) = true := deqs_self (n := 2) (flt_pDs ps)
structure Tb where
  a : Rat
  b : Rat
  c : Rat
  d : Rat
deriving DecidableEq
theorem Tb.ext' {s t : Tb} (h1 : s.a = t.a) (h2 : s.b = t.b) (h3 : s.c = t.c) (h4 : s.d = t.d) : s = t := by
  cases s; cases t
  dsimp only at h1 h2 h3 h4
  rw [h1, h2, h3, h4]
abbrev Tb.lst (t : Tb) : List Rat := [t.a, t.b, t.c, t.d]
abbrev tD (t : Tb) : D := .tup [qD t.a, qD t.b, qD t.c, qD t.d]
def Tb.one : Tb := ⟨1, 0, 0, 1⟩
def Tb.andThen (f s : Tb) : Tb := ⟨s.a * f.a + s.b * f.c, s.a * f.b + s.b * f.d, s.c * f.a + s.d * f.c, s.c * f.b + s.d * f.d⟩
def Tb.det (t : Tb) : Rat := t.a * t.d - t.b * t.c
structure Ry where
  y : Rat
  u : Rat
deriving DecidableEq
theorem Ry.ext' {s t : Ry} (h1 : s.y = t.y) (h2 : s.u = t.u) : s = t := by
  cases s; cases t
  dsimp only at h1 h2
  rw [h1, h2]
abbrev rD (r : Ry) : D := .tup [qD r.y, qD r.u]
def Tb.on (t : Tb) (r : Ry) : Ry := ⟨t.a * r.y + t.b * r.u, t.c * r.y + t.d * r.u⟩
def bend (r : Ry) : Pc → Ry
  | .gap q => ⟨r.y + q * r.u, r.u⟩
  | .glass q => ⟨r.y, r.u - q * r.y⟩
  | .stop _ _ => r
def bends (ps : List Pc) (r : Ry) : Ry := ps.foldl bend r
def ptb : Pc → Tb
  | .gap q => ⟨1, q, 0, 1⟩
  | .glass q => ⟨1, 0, -q, 1⟩
  | .stop _ _ => .one
def tbs (ps : List Pc) : Tb := ps.foldl (fun t p => t.andThen (ptb p)) .one
theorem Tb.one_then (t : Tb) : Tb.one.andThen t = t := by apply Tb.ext' <;> simp only [Tb.andThen, Tb.one] <;> grind
theorem Tb.then_one (t : Tb) : t.andThen .one = t := by apply Tb.ext' <;> simp only [Tb.andThen, Tb.one] <;> grind
theorem Tb.then_assoc (r s t : Tb) : (r.andThen s).andThen t = r.andThen (s.andThen t) := by apply Tb.ext' <;> simp only [Tb.andThen] <;> grind
theorem Tb.det_then (s t : Tb) : (s.andThen t).det = s.det * t.det := by simp only [Tb.andThen, Tb.det]; grind
theorem Tb.then_on (s t : Tb) (r : Ry) : (s.andThen t).on r = t.on (s.on r) := by apply Ry.ext' <;> simp only [Tb.andThen, Tb.on] <;> grind
theorem Tb.one_on (r : Ry) : Tb.one.on r = r := by apply Ry.ext' <;> simp only [Tb.one, Tb.on] <;> grind
theorem ptb_on (p : Pc) (r : Ry) : (ptb p).on r = bend r p := by
  cases p <;> apply Ry.ext' <;> simp only [ptb, bend, Tb.on, Tb.one] <;> grind
theorem ptb_det (p : Pc) : (ptb p).det = 1 := by
  cases p <;> simp only [ptb, Tb.det, Tb.one] <;> grind
theorem tbs_fold : ∀ (ps : List Pc) (t : Tb), ps.foldl (fun t p => t.andThen (ptb p)) t = t.andThen (tbs ps)
  | [], t => (Tb.then_one t).symm
  | p :: ps, t => by
    rw [List.foldl_cons, tbs_fold ps, Tb.then_assoc]
    unfold tbs
    rw [List.foldl_cons, tbs_fold ps (Tb.one.andThen (ptb p)), Tb.one_then]
    rfl
theorem tbs_cons (p : Pc) (ps : List Pc) : tbs (p :: ps) = (ptb p).andThen (tbs ps) := by
  show List.foldl _ _ _ = _
  rw [List.foldl_cons, tbs_fold, Tb.one_then]
theorem tbs_nil : tbs [] = .one := rfl
theorem tbs_append (ps qs : List Pc) : tbs (ps ++ qs) = (tbs ps).andThen (tbs qs) := by
  unfold tbs
  rw [List.foldl_append, tbs_fold qs]
  rfl
theorem tbs_det : ∀ ps : List Pc, (tbs ps).det = 1
  | [] => by simp only [tbs_nil, Tb.det, Tb.one]; grind
  | p :: ps => by rw [tbs_cons, Tb.det_then, ptb_det, tbs_det ps]; grind
theorem tbs_on : ∀ (ps : List Pc) (r : Ry), (tbs ps).on r = bends ps r
  | [], r => Tb.one_on r
  | p :: ps, r => by
    rw [tbs_cons, Tb.then_on, ptb_on, tbs_on ps]
    rfl
def Tb.flip (t : Tb) : Tb := ⟨t.d, t.b, t.c, t.a⟩
theorem Tb.flip_then (s t : Tb) : (s.andThen t).flip = t.flip.andThen s.flip := by apply Tb.ext' <;> simp only [Tb.andThen, Tb.flip] <;> grind
theorem ptb_flip (p : Pc) : (ptb p).flip = ptb p := by cases p <;> rfl
theorem tbs_reverse : ∀ ps : List Pc, tbs ps.reverse = (tbs ps).flip
  | [] => rfl
  | p :: ps => by
    rw [List.reverse_cons, tbs_append, tbs_reverse ps, tbs_cons p [], tbs_nil, Tb.then_one, tbs_cons p ps, Tb.flip_then, ptb_flip]
theorem bends_append (ps qs : List Pc) (r : Ry) : bends (ps ++ qs) r = bends qs (bends ps r) := List.foldl_append
/-- sizes of what is bent -/
theorem bend_big {k w : Nat} {r : Ry} (h : BigP k w [r.y, r.u]) {p : Pc} (hp : PcW w p) : BigP (k + 1) w [(bend r p).y, (bend r p).u] := by
  cases p with
  | gap q =>
    refine h.step hp fun y hy => ?_
    simp only [bend, List.mem_cons, List.not_mem_nil, or_false] at hy ⊢
    rcases hy with rfl | rfl
    · exact .inr ⟨_, .inl rfl, _, .inr rfl, .inl rfl⟩
    · exact .inl (.inr rfl)
  | glass q =>
    refine h.step hp fun y hy => ?_
    simp only [bend, List.mem_cons, List.not_mem_nil, or_false] at hy ⊢
    rcases hy with rfl | rfl
    · exact .inl (.inl rfl)
    · exact .inr ⟨_, .inr rfl, _, .inl rfl, .inr rfl⟩
  | stop a b => exact h.step hp.1 fun y hy => .inl hy
theorem bends_big {w : Nat} : ∀ (ps : List Pc) {k : Nat} {r : Ry}, BigP k w [r.y, r.u] → (∀ p ∈ ps, PcW w p) → BigP (k + ps.length) w [(bends ps r).y, (bends ps r).u]
  | [], k, r, h, _ => h
  | p :: ps, k, r, h, hp => by
    have := bends_big ps (bend_big h (hp p List.mem_cons_self)) fun q hq => hp q (List.mem_cons_of_mem _ hq)
    rw [List.length_cons, show k + (ps.length + 1) = k + 1 + ps.length by omega]
    exact this
theorem then_big {k w : Nat} {t : Tb} (h : BigP k w t.lst) {p : Pc} (hp : PcW w p) : BigP (k + 1) w (t.andThen (ptb p)).lst := by
  cases p with
  | gap q =>
    refine h.step hp fun y hy => ?_
    simp only [ptb, Tb.andThen, Tb.lst, List.mem_cons, List.not_mem_nil, or_false] at hy ⊢
    rcases hy with rfl | rfl | rfl | rfl
    · exact .inr ⟨_, .inl rfl, _, .inr (.inr (.inl rfl)), .inl (by grind)⟩
    · exact .inr ⟨_, .inr (.inl rfl), _, .inr (.inr (.inr rfl)), .inl (by grind)⟩
    · exact .inl (.inr (.inr (.inl (by grind))))
    · exact .inl (.inr (.inr (.inr (by grind))))
  | glass q =>
    refine h.step hp fun y hy => ?_
    simp only [ptb, Tb.andThen, Tb.lst, List.mem_cons, List.not_mem_nil, or_false] at hy ⊢
    rcases hy with rfl | rfl | rfl | rfl
    · exact .inl (.inl (by grind))
    · exact .inl (.inr (.inl (by grind)))
    · exact .inr ⟨_, .inr (.inr (.inl rfl)), _, .inl rfl, .inr (by grind)⟩
    · exact .inr ⟨_, .inr (.inr (.inr rfl)), _, .inr (.inl rfl), .inr (by grind)⟩
  | stop a b =>
    show BigP _ _ (t.andThen Tb.one).lst
    rw [Tb.then_one]
    exact h.step hp.1 fun y hy => .inl hy
theorem fold_big {w : Nat} : ∀ (ps : List Pc) {k : Nat} {t : Tb}, BigP k w t.lst → (∀ p ∈ ps, PcW w p) → BigP (k + ps.length) w (ps.foldl (fun t p => t.andThen (ptb p)) t).lst
  | [], k, r, h, _ => h
  | p :: ps, k, r, h, hp => by
    have := fold_big ps (then_big h (hp p List.mem_cons_self)) fun q hq => hp q (List.mem_cons_of_mem _ hq)
    rw [List.length_cons, show k + (ps.length + 1) = k + 1 + ps.length by omega]
    exact this
theorem tbs_big {w : Nat} (ps : List Pc) (hp : ∀ p ∈ ps, PcW w p) : BigP ps.length w (tbs ps).lst := by
  have := fold_big ps (big0 w) hp (t := .one)
  rwa [Nat.zero_add] at this
def SzT (n : Nat) (t : Tb) : Prop := Sz n t.a ∧ Sz n t.b ∧ Sz n t.c ∧ Sz n t.d
def SzR (n : Nat) (r : Ry) : Prop := Sz n r.y ∧ Sz n r.u
theorem big_szT {k w n : Nat} {t : Tb} (h : BigP k w t.lst) (hk : (2 * w + 1) * k < n) : SzT n t :=
  ⟨h.sz' hk (by simp), h.sz' hk (by simp), h.sz' hk (by simp), h.sz' hk (by simp)⟩
theorem big_szR {k w n : Nat} {r : Ry} (h : BigP k w [r.y, r.u]) (hk : (2 * w + 1) * k < n) : SzR n r :=
  ⟨h.sz' hk (by simp), h.sz' hk (by simp)⟩
theorem tbs_sz {w n : Nat} (ps : List Pc) (hp : ∀ p ∈ ps, PcW w p) (hk : (2 * w + 1) * ps.length < n) : SzT n (tbs ps) := big_szT (tbs_big ps hp) hk
theorem SzT.le {n m : Nat} {t : Tb} (h : SzT n t) (hn : n ≤ m) : SzT m t := ⟨h.1.le hn, h.2.1.le hn, h.2.2.1.le hn, h.2.2.2.le hn⟩
theorem SzR.le {n m : Nat} {t : Ry} (h : SzR n t) (hn : n ≤ m) : SzR m t := ⟨h.1.le hn, h.2.le hn⟩
theorem SzT.andThen {n m : Nat} {s t : Tb} (h : SzT n s) (h2 : SzT m t) : SzT (2 * n + 2 * m + 1) (s.andThen t) := by
  obtain ⟨a, b, c, d⟩ := h
  obtain ⟨a', b', c', d'⟩ := h2
  exact ⟨((a'.mul a).add (b'.mul c)).le (by omega), ((a'.mul b).add (b'.mul d)).le (by omega), ((c'.mul a).add (d'.mul c)).le (by omega), ((c'.mul b).add (d'.mul d)).le (by omega)⟩
theorem SzT.on {n m : Nat} {t : Tb} {r : Ry} (h : SzT n t) (h2 : SzR m r) : SzR (2 * n + 2 * m + 1) (t.on r) := by
  obtain ⟨a, b, c, d⟩ := h
  obtain ⟨y, u⟩ := h2
  exact ⟨((a.mul y).add (b.mul u)).le (by omega), ((c.mul y).add (d.mul u)).le (by omega)⟩
theorem big_ray {w : Nat} {r : Ry} (h : Pw w r.y) (h2 : Pw w r.u) : BigP 2 w [r.y, r.u] := by
  have p0 := Nat.pos_of_ne_zero r.y.den_nz
  have q0 := Nat.pos_of_ne_zero r.u.den_nz
  have e : (2 : Nat) ^ w ≤ 2 ^ ((w + 1) * 2) := Nat.pow_le_pow_right (by decide) (by omega)
  refine ⟨r.y.den * r.u.den, Nat.mul_pos p0 q0, ?_, fun y hy => ?_⟩
  · have := Nat.mul_le_mul h.1 h2.1
    rwa [← Nat.pow_add, ← Nat.mul_two] at this
  · simp only [List.mem_cons, List.not_mem_nil, or_false] at hy
    rcases hy with rfl | rfl
    · exact (h.2.dvd (Nat.dvd_mul_right _ _)).le e
    · exact (h2.2.dvd (Nat.dvd_mul_left _ _)).le e
theorem big_of_sz {n k w : Nat} {y u : Rat} (h : Sz n y) (h2 : Sz n u) (hk : 2 * n ≤ w * k) : BigP k w [y, u] := by
  have p0 := Nat.pos_of_ne_zero y.den_nz
  have q0 := Nat.pos_of_ne_zero u.den_nz
  have e1 : w * k ≤ (w + 1) * k := Nat.mul_le_mul_right _ (by omega)
  have e : (2 : Nat) ^ n ≤ 2 ^ ((w + 1) * k) := Nat.pow_le_pow_right (by decide) (by omega)
  refine ⟨y.den * u.den, Nat.mul_pos p0 q0, ?_, fun z hz => ?_⟩
  · have := mul_lt h.2 h2.2
    exact Nat.le_of_lt (Nat.lt_of_lt_of_le this (Nat.pow_le_pow_right (by decide) (by omega)))
  · simp only [List.mem_cons, List.not_mem_nil, or_false] at hz
    have sc : ∀ {q : Rat} {d : Nat}, Sz n q → q.den ∣ d → In d (2 ^ ((w + 1) * k)) q := fun {q d} hq hd =>
      ⟨hd, Nat.le_trans (Nat.le_of_lt (Nat.lt_of_lt_of_le hq.1 e)) (Nat.le_mul_of_pos_right _ (Nat.pos_of_ne_zero q.den_nz))⟩
    rcases hz with rfl | rfl
    · exact sc h (Nat.dvd_mul_right _ _)
    · exact sc h2 (Nat.dvd_mul_left _ _)
theorem filterMap_pD (f : Pc → Bool) : ∀ ps : List Pc, ps.filterMap (fun p => if f p = true then some (pD p) else none) = (ps.filter f).map pD
  | [] => rfl
  | p :: ps => by
    rw [List.filterMap_cons, List.filter_cons]
    cases h : f p <;> simp [filterMap_pD f ps]
def isGlass : Pc → Bool
  | .glass _ => true
  | _ => false
def isGap : Pc → Bool
  | .gap _ => true
  | _ => false
theorem qD_congr {p q : Rat} (h : p = q) : qD p = qD q := by rw [h]
theorem tD_congr {a b c d : Rat} {t : Tb} (h1 : a = t.a) (h2 : b = t.b) (h3 : c = t.c) (h4 : d = t.d) : D.tup [qD a, qD b, qD c, qD d] = tD t := by
  unfold tD
  rw [h1, h2, h3, h4]
theorem rD_congr {a b : Rat} {t : Ry} (h1 : a = t.y) (h2 : b = t.u) : D.tup [qD a, qD b] = rD t := by
  unfold rD
  rw [h1, h2]
theorem deq_tD (s t : Tb) : deq (tD s) (tD t) = decide (s = t) := by
  unfold tD
  simp only [q_tup, q_cons, q_nil, deq_q, Bool.and_true]
  by_cases h : s = t
  · subst h; simp
  · have : ¬ (s.a = t.a ∧ s.b = t.b ∧ s.c = t.c ∧ s.d = t.d) := fun z => h (Tb.ext' z.1 z.2.1 z.2.2.1 z.2.2.2)
    rw [decide_eq_false h, ← Bool.decide_and, ← Bool.decide_and, ← Bool.decide_and, decide_eq_false this]
theorem deq_rD (s t : Ry) : deq (rD s) (rD t) = decide (s = t) := by
  unfold rD
  simp only [q_tup, q_cons, q_nil, deq_q, Bool.and_true]
  by_cases h : s = t
  · subst h; simp
  · have : ¬ (s.y = t.y ∧ s.u = t.u) := fun z => h (Ry.ext' z.1 z.2)
    rw [decide_eq_false h, ← Bool.decide_and, decide_eq_false this]
/-- one of a few by its place -/
def pick2 (a b : Int) (i : Int) : Int := if i = 0 then a else b
def pick3 (a b c : Int) (i : Int) : Int := if i = 0 then a else if i = 1 then b else c
def pick4 (a b c d : Int) (i : Int) : Int := if i = 0 then a else if i = 1 then b else if i = 2 then c else d
theorem ix_pick2 (a b i : Int) (h : 0 ≤ i) (h2 : i < 2) : ([.int a, .int b] : List D)[i.toNat]? = some (.int (pick2 a b i)) := by
  have : i = 0 ∨ i = 1 := by omega
  rcases this with rfl | rfl <;> rfl
theorem ix_pick3 (a b c i : Int) (h : 0 ≤ i) (h2 : i < 3) : ([.int a, .int b, .int c] : List D)[i.toNat]? = some (.int (pick3 a b c i)) := by
  have : i = 0 ∨ i = 1 ∨ i = 2 := by omega
  rcases this with rfl | rfl | rfl <;> rfl
theorem ix_pick4 (a b c d i : Int) (h : 0 ≤ i) (h2 : i < 4) : ([.int a, .int b, .int c, .int d] : List D)[i.toNat]? = some (.int (pick4 a b c d i)) := by
  have : i = 0 ∨ i = 1 ∨ i = 2 ∨ i = 3 := by omega
  rcases this with rfl | rfl | rfl | rfl <;> rfl
theorem pick4_is (a b c d i : Int) : pick4 a b c d i = a ∨ pick4 a b c d i = b ∨ pick4 a b c d i = c ∨ pick4 a b c d i = d := by
  unfold pick4
  split
  · exact .inl rfl
  · split
    · exact .inr (.inl rfl)
    · split
      · exact .inr (.inr (.inl rfl))
      · exact .inr (.inr (.inr rfl))
/-- the cell of a script at a place -/
def cellAt (cs : List Int) (k : Nat) : Int := cs.getD k 0
theorem getD_map (cs : List Int) (k : Nat) (h : k < cs.length) : (cs.map D.int)[k]? = some (.int (cellAt cs k)) := by
  unfold cellAt
  rw [List.getElem?_map, List.getElem?_eq_getElem h, List.getD_eq_getElem?_getD, List.getElem?_eq_getElem h]
  rfl
theorem k_nl_q (q : Rat) : nolst (qD q) = true := nol_qD q
theorem k_nl_tup (ds : List D) : nolst (.tup ds) = nolsts ds := by simp [nolst]
theorem k_nls_nil : nolsts [] = true := rfl
theorem k_nls_cons (d : D) (ds : List D) : nolsts (d :: ds) = (nolst d && nolsts ds) := by simp [nolsts]
theorem k_nlE_lst (ds : List D) : nolstE (.lst ds) = nolsts ds := rfl
theorem q_flt (n : Nat) (q : Rat) : flt (n + 1) (qD q) = true := flt_q n q
theorem q_deq (p q : Rat) : deq (qD p) (qD q) = decide (p = q) := deq_q p q
theorem q_shp (q : Rat) : shp (qD q) = true := shp_q q
theorem k_dle (n m : Nat) (h : n ≤ m) : decide (n ≤ m) = true := decide_eq_true h
theorem k_dlt (n m : Nat) (h : n < m) : decide (n < m) = true := decide_eq_true h
theorem k_zipL0r (xs : List D) : zipL xs [] = [] := by cases xs <;> rfl
theorem mem_rngL {lo : Int} {n : Nat} {d : D} (h : d ∈ rngL lo n) : ∃ k, d = .int k ∧ lo ≤ k ∧ k < lo + n := by
  unfold rngL at h
  obtain ⟨i, hi, rfl⟩ := List.mem_map.mp h
  have := List.mem_range.mp hi
  exact ⟨_, rfl, by omega, by omega⟩
theorem rngL_length (lo : Int) (n : Nat) : (rngL lo n).length = n := by simp [rngL]
theorem compR_ex {α : Type} {tg : FG} {t : FB} {f : F1} {vs : List Nat} {w : DEnv} (out : α → D) (P : α → Prop) : ∀ (ds acc : List D), (∀ d ∈ ds, ∃ a, turn tg t f vs d w = .ok (some (out a)) w ∧ P a) → ∃ as : List α, compR tg t f vs ds acc w = .ok (acc ++ as.map out) w ∧ as.length = ds.length ∧ ∀ a ∈ as, P a
  | [], acc, _ => ⟨[], by simp [compR], rfl, by simp⟩
  | d :: ds, acc, h => by
    obtain ⟨a, h1, h2⟩ := h d List.mem_cons_self
    obtain ⟨as, h3, h4, h5⟩ := compR_ex out P ds (acc ++ [out a]) fun x hx => h x (List.mem_cons_of_mem _ hx)
    refine ⟨a :: as, ?_, by simp [h4], fun x hx => ?_⟩
    · rw [compR_cons h1]
      show compR tg t f vs ds (acc ++ [out a]) w = _
      rw [h3]
      simp
    · rcases List.mem_cons.mp hx with rfl | z
      · exact h2
      · exact h5 x z
theorem q_npair (q : Rat) : D.tup [.int (0 - q.num), .int q.den] = qD (-q) := by
  unfold qD
  rw [Rat.neg_num, Rat.neg_den, Int.zero_sub]
theorem q_lit0 : D.tup [.int 0, .int 1] = qD 0 := rfl
theorem q_lit1 : D.tup [.int 1, .int 1] = qD 1 := rfl
theorem q_ix0 (q : Rat) : ixD (qD q) (.int 0) = some (.dat (.int q.num)) := rfl
theorem q_ix1 (q : Rat) : ixD (qD q) (.int 1) = some (.dat (.int q.den)) := rfl
theorem q_isn_non : isNon .non = true := rfl
theorem q_isn_bl (b : Bool) : isNon (.bl b) = false := rfl
theorem q_isn_int (i : Int) : isNon (.int i) = false := rfl
theorem q_isn_str (x : Str) : isNon (.str x) = false := rfl
theorem q_isn_tup (xs : List D) : isNon (.tup xs) = false := rfl
theorem q_isn_lst (xs : List D) : isNon (.lst xs) = false := rfl
theorem q_isn (q : Rat) : isNon (qD q) = false := rfl
theorem q_len (q : Rat) : lenD [qD q] = some (.dat (.int 2)) := rfl
theorem q_ity (q : Rat) : isiB "tuple" (qD q) = some true := i_tuple_tup _
end DL

set_option Elab.async false
set_option linter.all false
set_option maxRecDepth 100000
/-! in, not in; xs[::-1]; reversed(xs), list(reversed(xs)). -/
namespace DL
open PySem PySem.Spec L2
section
variable {X : Cx} {fx : List (Nat × V)} {W : WX} {pos : Pos} {a b c : Expr} {f g h : F1} {F G : FS} {tg : Expr}
/-! ### in, not in -/
def flD : D → Bool
  | .non => true
  | .bl _ => true
  | .int _ => true
  | .str _ => true
  | _ => false
theorem toPys_any (d : D) : ∀ ys : List D, (toPys ys).any (fun z => PyData.eqv z (toPy d)) = ys.any fun y => deq y d
  | [] => rfl
  | y :: ys => by
    rw [toPys, List.any_cons, List.any_cons, toPys_any d ys]
    rfl
theorem flD_v {R : RC} {H : Hp} : ∀ {d : D} {v : V}, flD d = true → Rep R H d v → flatV v = true
  | .non, _, _, r => by cases (show _ = V.non from r); rfl
  | .bl _, _, _, r => by cases (show _ = V.bl _ from r); rfl
  | .int _, _, _, r => by cases (show _ = V.int _ from r); rfl
  | .str _, _, _, r => by cases (show _ = V.str _ from r); rfl
  | .tup _, _, h, _ => by cases h
  | .lst _, _, h, _ => by cases h
  | .dct _ _, _, h, _ => by cases h
  | .ins _ _ _, _, h, _ => by cases h
  | .exn _ _, _, h, _ => by cases h
  | .adr _, _, h, _ => by cases h
theorem flD_eq {R R' : RC} {H H' : Hp} {d e : D} {v u : V} (hd : flD d = true) (he : flD e = true) (r : Rep R H d v) (r' : Rep R' H' e u) : eqV v u = deq d e := by
  cases d <;> first
    | (cases hd; done)
    | (cases e <;> first
        | (cases he; done)
        | (cases (show v = _ from r); cases (show u = _ from r'); unfold deq; simp only [toPy, PyData.eqv, eqV]))
theorem flD_all {R : RC} {H : Hp} : ∀ {ds : List D} {vs : List V}, ds.all flD = true → RepL R H ds vs → vs.all flatV = true
  | [], _, _, r => by cases (show _ = _ from r); rfl
  | d :: ds, _, h, r => by
    obtain ⟨v, ws, rfl, p, q⟩ := r
    rw [List.all_cons, Bool.and_eq_true] at h ⊢
    exact ⟨flD_v h.1 p, flD_all h.2 q⟩
theorem flD_any {R R' : RC} {H H' : Hp} {d : D} {v : V} (hd : flD d = true) (r0 : Rep R' H' d v) : ∀ {ds : List D} {vs : List V}, ds.all flD = true → RepL R H ds vs → inV v vs = ds.any fun y => deq y d
  | [], _, _, r => by cases (show _ = _ from r); rfl
  | e :: ds, _, h, r => by
    obtain ⟨v', ws, rfl, p, q⟩ := r
    rw [List.all_cons, Bool.and_eq_true] at h
    have ih := flD_any hd r0 h.2 q
    unfold inV at ih ⊢
    rw [List.any_cons, List.any_cons, ih, flD_eq h.1 hd p r0]
def inB (d : D) : D → Option Bool
  | .lst ys => if shp d = true ∧ shp (.lst ys) = true then some (ys.any fun y => deq y d) else none
  | .tup ys => if flD d = true ∧ ys.all flD = true then some (ys.any fun y => deq y d) else none
  | .str z => match d with
    | .str x => match x.cps.toList with
      | [c] => some (decide (c ∈ z.cps.toList))
      | _ => none
    | _ => none
  | _ => none
def inD (d e : D) : Option PV := match inB d e with
  | some b => bD b
  | none => none
def ninD (d e : D) : Option PV := match inB d e with
  | some b => bD (!b)
  | none => none
theorem RepV.flat {R : RC} {s : SS} {v : V} : ∀ {d : D}, flD d = true → RepV R s d v → Rep R (hid s.A s.H) d v
  | .non, _, r => r
  | .bl _, _, r => r
  | .int _, _, r => r
  | .str _, _, r => r
  | .tup _, h, _ => by cases h
  | .lst _, h, _ => by cases h
  | .dct _ _, h, _ => by cases h
  | .ins _ _ _, h, _ => by cases h
  | .exn _ _, h, _ => by cases h
  | .adr _, h, _ => by cases h
theorem in_post (neg : Bool) (s : SS) (x y : V) (d1 d2 : D) (bb : Bool) (Q : VK) (a : Sa (rc X) fx s) (rx : RepV (rc X) s d1 x) (ry : RepV (rc X) s d2 y) (e : inB d1 d2 = some bb) (k : Q (.bl (if neg then !bb else bb)) s.H) :
    (∃ d ds, Dp X.K s.H x d ∧ Dp X.K s.H y (.list ds) ∧ SeqAt.shaped d = true ∧ SeqAt.shaped (.list ds) = true ∧ Q (.bl (if neg then !(ds.any fun z => PyData.eqv z d) else ds.any fun z => PyData.eqv z d)) s.H) ∨ rIn X.K neg x y s.H Q ∨ (∃ (c : Nat) (z : Str), x = .str ⟨#[c]⟩ ∧ y = .str z ∧ Q (.bl (if neg then !decide (c ∈ z.cps.toList) else decide (c ∈ z.cps.toList))) s.H) := by
  unfold inB at e
  split at e
  · rename_i ys
    split at e
    · rename_i hs
      cases e
      refine .inl ⟨toPy d1, toPys ys, toPy_dp d1 x (shp_py hs.1) rx.full, ?_, shp_ok hs.1, ?_, ?_⟩
      · have := toPy_dp (.lst ys) y (shp_py hs.2) ry.full
        simpa only [toPy] using this
      · have := shp_ok hs.2
        simpa only [toPy] using this
      · rw [toPys_any]; exact k
    · cases e
  · rename_i ys
    split at e
    · rename_i hs
      cases e
      obtain ⟨p, vs, rfl, h1, h2⟩ := RepV.ref_tup ry
      have r0 := RepV.flat hs.1 rx
      refine .inr (.inl ⟨p, vs, rfl, .inr (SqT.le hid_le h1), flD_v hs.1 r0, flD_all hs.2 h2, ?_⟩)
      rw [flD_any hs.1 r0 hs.2 h2]
      exact k
    · cases e
  · rename_i z
    split at e
    · rename_i xx
      split at e
      · rename_i c hc
        cases e
        refine .inr (.inr ⟨c, z, ?_, ry, k⟩)
        have hx : x = .str xx := rx
        rw [hx]
        congr 1
        cases xx with
        | mk cps =>
          cases cps
          simp at hc
          subst hc
          rfl
      · cases e
    · cases e
  · cases e
theorem od_in (hu : X.A.units + 65 < cLine) : OpD X fx (compareOp .In) inD := by
  refine ⟨_, (op_inD hu).or (op_in_seq.or op_in_sign), ?_⟩
  intro s x y d1 d2 pv Q a rx ry e k
  unfold inD at e
  cases hb : inB d1 d2 with
  | none => rw [hb] at e; cases e
  | some bb =>
    rw [hb] at e
    cases e
    rcases in_post false s x y d1 d2 bb Q a rx ry hb (keep_dat a k rfl) with q | q | q
    · exact .inl q
    · exact .inr (.inl q)
    · exact .inr (.inr q)
theorem od_nin (hu : X.A.units + 65 < cLine) : OpD X fx (compareOp .NotIn) ninD := by
  refine ⟨_, (op_notInD hu).or (op_notIn_seq.or op_notIn_sign), ?_⟩
  intro s x y d1 d2 pv Q a rx ry e k
  unfold ninD at e
  cases hb : inB d1 d2 with
  | none => rw [hb] at e; cases e
  | some bb =>
    rw [hb] at e
    cases e
    rcases in_post true s x y d1 d2 bb Q a rx ry hb (keep_dat a k rfl) with q | q | q
    · exact .inl q
    · exact .inr (.inl q)
    · exact .inr (.inr q)
def inQ (d : D) (ys : List D) (neg : Bool) (a b : Bool) : Option PV := if a = true ∧ b = true then some (.dat (.bl (if neg then !(ys.any fun y => deq y d) else ys.any fun y => deq y d))) else none
theorem d_in_lst (d : D) (ys : List D) : inD d (.lst ys) = inQ d ys false (shp d) (shp (.lst ys)) := by
  unfold inD inB inQ
  dsimp only
  by_cases h : shp d = true ∧ shp (.lst ys) = true
  · rw [if_pos h, if_pos h]; rfl
  · rw [if_neg h, if_neg h]
theorem d_nin_lst (d : D) (ys : List D) : ninD d (.lst ys) = inQ d ys true (shp d) (shp (.lst ys)) := by
  unfold ninD inB inQ
  dsimp only
  by_cases h : shp d = true ∧ shp (.lst ys) = true
  · rw [if_pos h, if_pos h]; rfl
  · rw [if_neg h, if_neg h]
theorem d_in_tup (d : D) (ys : List D) : inD d (.tup ys) = inQ d ys false (flD d) (ys.all flD) := by
  unfold inD inB inQ
  dsimp only
  by_cases h : flD d = true ∧ ys.all flD = true
  · rw [if_pos h, if_pos h]; rfl
  · rw [if_neg h, if_neg h]
theorem d_nin_tup (d : D) (ys : List D) : ninD d (.tup ys) = inQ d ys true (flD d) (ys.all flD) := by
  unfold ninD inB inQ
  dsimp only
  by_cases h : flD d = true ∧ ys.all flD = true
  · rw [if_pos h, if_pos h]; rfl
  · rw [if_neg h, if_neg h]
theorem d_inQ0 (d : D) (ys : List D) : inQ d ys false true true = some (.dat (.bl (ys.any fun y => deq y d))) := rfl
theorem d_inQ1 (d : D) (ys : List D) : inQ d ys true true true = some (.dat (.bl (!(ys.any fun y => deq y d)))) := rfl
theorem d_in_sign (c : Nat) (z : Str) : inD (.str ⟨#[c]⟩) (.str z) = some (.dat (.bl (decide (c ∈ z.cps.toList)))) := rfl
theorem d_nin_sign (c : Nat) (z : Str) : ninD (.str ⟨#[c]⟩) (.str z) = some (.dat (.bl (!decide (c ∈ z.cps.toList)))) := rfl
theorem d_fl_non : flD .non = true := rfl
theorem d_fl_bl (b : Bool) : flD (.bl b) = true := rfl
theorem d_fl_int (i : Int) : flD (.int i) = true := rfl
theorem d_fl_str (x : Str) : flD (.str x) = true := rfl
/-! ### xs[::-1] -/
def eRev (f : F1) : F1 := fun e => (f e).bind fun p e1 => match res p e1 with
  | some (.lst xs) => .ok (.fresh (.lst xs.reverse)) e1
  | _ => .bot
theorem de_rev {k : Nat} {p1 p2 p3 : Pos} (ha : DE X fx W a f) : DE X fx W (.Subscript a (.Slice none none (some (.UnaryOp .USub (.Constant (.int 1) k p1) p2)) p3) pos) (eRev f) := by
  refine PE.imp (pe_revL ha) fun σ H Q q => ?_
  obtain ⟨e, A, a0, q⟩ := q
  refine ⟨e, A, a0, (EPost.bnd a0 q).mono fun x H1 ⟨e1, A1, p, x1, r1, h1, _⟩ => ?_⟩
  cases q1 : res p e1 with
  | none => simp only [q1] at h1; exact h1.elim
  | some d =>
    simp only [q1] at h1
    cases d with
    | lst xs =>
      dsimp only at h1
      have rx := Sr.val (s := ⟨σ, e1, A1, H1⟩) x1.ab r1.1 q1
      obtain ⟨l, vs, rfl, h2, h3⟩ := RepV.ref_lst rx
      refine ⟨l, vs, rfl, h2.sq, fun p' hp => ?_⟩
      have st : St1 (rc X) fx ⟨σ, e1, A1, H1⟩ (SS.layO ⟨σ, e1, A1, H1⟩ p' (.lst vs.reverse)) := .layO x1.ab hp
      exact h1 (.ref p') _ rfl st ⟨Sr.lst x1.ab hp h3.rev, fun l' e => by cases e; exact hp⟩
    | _ => exact h1.elim
def revO (e : DEnv) (o : Option D) : EO PV := match o with
  | some (.lst xs) => .ok (.fresh (.lst xs.reverse)) e
  | _ => .bot
def revK (p : PV) (e : DEnv) : EO PV := revO e (res p e)
theorem k_rev (f : F1) (e : DEnv) : eRev f e = (f e).bind revK := rfl
theorem k_revK (p : PV) (e : DEnv) : revK p e = revO e (res p e) := rfl
theorem k_revO (xs : List D) (e : DEnv) : revO e (some (.lst xs)) = .ok (.fresh (.lst xs.reverse)) e := rfl
/-! ### for x in reversed(xs) -/
theorem it_rev {R : RC} {s : SS} {l : Addr} {ds : List D} {vs : List V} (a0 : Sa R fx s) (h1 : LsR R.K (hid s.A s.H) l vs) (h2 : RepL R (hid s.A s.H) ds vs) : ItOk R fx (Itv R.K l vs.length) ds.reverse s := by
  refine ⟨fun t i st => ?_⟩
  have q1 : SqL R.K t.H l vs := (LsR.le hid_le (LsR.le (st.nx.hid a0) h1)).sq
  have q2 := RepL.le (st.nx.hid a0) _ _ h2
  have hl := RepL.length h2
  refine ⟨fun hi => ?_, fun d hd => ?_⟩
  · show vs.length ≤ i
    rw [hi, List.length_reverse]; omega
  · have hi : i < ds.length := by
      have := (List.getElem?_eq_some_iff.mp hd).1
      rwa [List.length_reverse] at this
    rw [List.getElem?_reverse hi] at hd
    obtain ⟨v, hv, hr⟩ := RepL.get q2 hd
    have e : vs.length - 1 - i = ds.length - 1 - i := by omega
    refine ⟨⟨by omega, vs, v, q1, by rw [e]; exact hv⟩, ?_⟩
    rintro x H' ⟨rfl, hx⟩
    have := hx vs q1
    rw [e, hv] at this
    cases this
    exact ⟨t.A, .refl, st.ab, hr⟩
def fiRev (f : F1) : FI := fun e => (f e).bind fun p e1 => match frz p e1 with
  | some (.lst ds, e2) => .ok ds.reverse e2
  | _ => .bot
theorem di_rev {p : Pos} (hg : Gl X "reversed") (hm : X.mg "reversed" = none) (ha : DE X fx W a f) (hs : starEach [a] X.env = (false, eval a X.env) :: starEach [] X.env := by rfl) : DI X fx W tg (.Call (.Name "reversed" p) [a] [] pos) (fiRev f) := by
  refine PI.imp (RT.pi_revA hg hm ha hs) fun σ H Q q => ?_
  obtain ⟨e, A, a0, q⟩ := q
  refine ⟨e, A, a0, ?_⟩
  unfold fiRev at q
  cases ho : f e with
  | bot => rw [ho] at q; exact q.elim
  | ex x e1 => rw [ho] at q; exact q
  | ok p e1 =>
    rw [ho] at q
    cases hz : frz p e1 with
    | none => simp only [EO.bind, hz] at q
    | some z =>
      obtain ⟨d, e2⟩ := z
      cases d with
      | lst ds =>
        simp only [EO.bind, hz] at q
        intro v t et st r
        obtain ⟨t', et', eh, st', rd⟩ := frz_ok a0 st r.1 r.2 (by rw [et]; exact hz)
        obtain ⟨l, vs, rfl, h1, h2⟩ := rd
        refine ⟨l, vs, rfl, .inl ⟨(LsR.le hid_le (by rw [← eh]; exact h1)).sq, ?_⟩⟩
        have := q (Itv X.K l vs.length) t' et' st' (it_rev (R := rc X) st'.ab h1 h2)
        rw [eh] at this
        exact this
      | non => simp only [EO.bind, hz] at q
      | bl b => simp only [EO.bind, hz] at q
      | int i => simp only [EO.bind, hz] at q
      | str i => simp only [EO.bind, hz] at q
      | tup i => simp only [EO.bind, hz] at q
      | dct k x => simp only [EO.bind, hz] at q
      | ins c n x => simp only [EO.bind, hz] at q
      | exn c x => simp only [EO.bind, hz] at q
      | adr x => simp only [EO.bind, hz] at q
def fiRevO (o : Option (D × DEnv)) : EO (List D) := match o with
  | some (.lst ds, e2) => .ok ds.reverse e2
  | _ => .bot
def fiRevK (p : PV) (e : DEnv) : EO (List D) := fiRevO (frz p e)
theorem k_fiRev (f : F1) (e : DEnv) : fiRev f e = (f e).bind fiRevK := rfl
theorem k_fiRevK (p : PV) (e : DEnv) : fiRevK p e = fiRevO (frz p e) := rfl
theorem k_fiRevO (ds : List D) (e : DEnv) : fiRevO (some (.lst ds, e)) = .ok ds.reverse e := rfl
end
end DL

set_option Elab.async false
set_option linter.all false
set_option maxRecDepth 100000
/-! Own classes whose __init__ stores its parameters: made, read, their methods called. -/
namespace DL
open PySem PySem.Spec L2 PyProof.Rows
def initSp (C : Addr) (ns : List Str) : Sp := fun vs H Q _ => ∃ (x dx : Addr) (ws : List V), vs = .ref x :: ws ∧ ws.length = ns.length ∧ H x = some (.ins C dx []) ∧ Q .non (upd H x (.ins C dx (ns.zip ws)))
def okN (x : Str) : Bool := !(x == ("__debug__" : Str)) && !(x == ("__classdict__" : Str))
theorem okN1 {x : Str} (h : okN x = true) : (x == ("__debug__" : Str)) = false := by
  unfold okN at h
  rw [Bool.and_eq_true, Bool.not_eq_true', Bool.not_eq_true'] at h
  exact h.1
theorem okN2 {x : Str} (h : okN x = true) : (x == ("__classdict__" : Str)) = false := by
  unfold okN at h
  rw [Bool.and_eq_true, Bool.not_eq_true', Bool.not_eq_true'] at h
  exact h.2
theorem upd_upd (H : Hp) (x : Addr) (a b : HO) : upd (upd H x a) x b = upd H x b := by
  funext c
  unfold upd
  by_cases h : c = x <;> simp [h]
section
variable {P : Program} {w : World} {K : PySem.W.Frag} {mg : Str → Option Value} {base : Heap}
theorem fn_init1 {qual : Str} {st : Stmt} {f C : Addr} {fd : FuncData} {N : List Str} {k : Nat} {x0 x1 f1 : Str} {q1 q2 q3 q4 : Pos} (F : Fun K "__init__" qual st f fd) (S : FnScope N [x0, x1] (defScope st)) (hb : defBody st = [.Assign [.Attribute (.Name x0 q1) f1 q2] (.Name x1 q3) q4])
    (h0 : N[0]? = some x0) (h1 : N[1]? = some x1) (v0 : Vis (defScope st) x0) (v1 : Vis (defScope st) x1) (o0 : okN x0 = true) (o1 : okN x1 = true) (c : Cls K C) (n1 : NoAttr K C f1) :
    FnOk P w K mg base (L2N.CX P w) (k + 1) f fd [x0, x1] (initSp C [f1]) :=
  F.okN S (fun vs H Q E ⟨x, dx, ws, e, l, _⟩ => by rw [e]; simp at l ⊢; exact l) fun cdv A outer s H vs Q E hr h => by
    obtain ⟨x, dx, ws, rfl, hl, hx, q⟩ := h
    rw [hb]
    refine ⟨_, pss_one (ps_fld (pe_var (i := 0) h0 v0 (okN1 o0) (okN2 o0)) (pe_var (i := 1) h1 v1 (okN1 o1) (okN2 o1)) rfl), ?_⟩
    match ws, hl with
    | [y], _ =>
      refine ⟨y, rfl, .ref x, rfl, x, C, dx, [], rfl, hx, c, n1, by decide, ?_⟩
      exact q
theorem fn_init2 {qual : Str} {st : Stmt} {f C : Addr} {fd : FuncData} {N : List Str} {k : Nat} {x0 x1 x2 f1 f2 : Str} {q1 q2 q3 q4 r1 r2 r3 r4 : Pos} (F : Fun K "__init__" qual st f fd) (S : FnScope N [x0, x1, x2] (defScope st)) (hb : defBody st = [.Assign [.Attribute (.Name x0 q1) f1 q2] (.Name x1 q3) q4, .Assign [.Attribute (.Name x0 r1) f2 r2] (.Name x2 r3) r4])
    (h0 : N[0]? = some x0) (h1 : N[1]? = some x1) (h2 : N[2]? = some x2) (v0 : Vis (defScope st) x0) (v1 : Vis (defScope st) x1) (v2 : Vis (defScope st) x2) (o0 : okN x0 = true) (o1 : okN x1 = true) (o2 : okN x2 = true) (c : Cls K C) (n1 : NoAttr K C f1) (n2 : NoAttr K C f2) (ne : f1 ≠ f2) :
    FnOk P w K mg base (L2N.CX P w) (k + 1) f fd [x0, x1, x2] (initSp C [f1, f2]) :=
  F.okN S (fun vs H Q E ⟨x, dx, ws, e, l, _⟩ => by rw [e]; simp at l ⊢; exact l) fun cdv A outer s H vs Q E hr h => by
    obtain ⟨x, dx, ws, rfl, hl, hx, q⟩ := h
    rw [hb]
    refine ⟨_, pss_cons (ps_fld (pe_var (i := 0) h0 v0 (okN1 o0) (okN2 o0)) (pe_var (i := 1) h1 v1 (okN1 o1) (okN2 o1)) rfl) (pss_one (ps_fld (pe_var (i := 0) h0 v0 (okN1 o0) (okN2 o0)) (pe_var (i := 2) h2 v2 (okN1 o2) (okN2 o2)) rfl)), ?_⟩
    match ws, hl with
    | [y, z], _ =>
      refine ⟨y, rfl, .ref x, rfl, x, C, dx, [], rfl, hx, c, n1, by decide, ?_⟩
      refine ⟨z, rfl, .ref x, rfl, x, C, dx, [(f1, y)], rfl, upd_same, c, n2, by simp, ?_⟩
      rw [upd_upd]
      have e : putF f2 z [(f1, y)] = [(f1, y), (f2, z)] := by
        show (if f1 = f2 then _ else _) = _
        rw [if_neg ne]
        rfl
      rw [e]
      exact q
end
section
variable {X : Cx} {fx : List (Nat × V)} {W : WX} {pos : Pos} {a b c : Expr} {f g h : F1} {es : List Expr} {fs : List F1}
theorem pass_none {E : XK} (h : ∀ cls d H, ¬ E cls d H) : Passes (L2N.CX X.prog X.w) X E := by
  intro pins σ H s e s' I c
  obtain ⟨_, _, _, _, _, _, _, _, _, _, _, _, no⟩ := c
  exact (h _ _ _ no).elim
/-- C(e, ..) -/
def eMk (c : Str) (ns : List Str) (fs : List F1) : F1 := fun e => (eItems fs e).bind fun ds e1 => if ds.length = ns.length then .ok (.dat (.ins c ns ds)) e1 else .bot
theorem de_mk {x : Str} {p : Pos} {C fI : Addr} {fdI : FuncData} {psI : List Str} {k : Nat} {ns : List Str} (M : Mk X.K C fI) (G : FnOk X.prog X.w X.K X.mg X.base (L2N.CX X.prog X.w) k fI fdI psI (initSp C ns)) (hr : Room (k + 1) X.A) (hg : Gl X x) (hm : X.mg x = some (.ref C)) (hb : Binds X.K fdI psI [])
    (ha : DD X fx W (a :: es) (eItems fs)) (hdb : (x == ("__debug__" : Str)) = false := by decide)
    (he : starEach (a :: es) X.env = (false, eval a X.env) :: starEach es X.env := by rfl) (hpl : (backTo pos (starEach es X.env)).any (·.1) = false := by rfl) : DE X fx W (.Call (.Name x p) (a :: es) [] pos) (eMk x ns fs) := by
  refine PE.imp (pe_make (E := fun _ _ _ => False) M G hr hg hm hb .nil (pass_none fun _ _ _ h => h) ha hdb he hpl) fun σ H Q q => ?_
  obtain ⟨e, A, a0, q⟩ := q
  refine ⟨e, A, a0, (EPost.bnd a0 q).mono fun vs H1 ⟨e1, A1, ds, x1, r1, h1, _⟩ => ?_⟩
  intro y dy hy hdy ne
  split at h1
  · rename_i hl
    have hr1 : RepL (rc X) (hid A1 H1) ds vs := r1
    have lv := RepL.length hr1
    refine ⟨y, dy, vs, by rw [List.append_nil], by omega, upd_same, ⟨rfl, ?_⟩⟩
    rw [upd_upd]
    have s1 := St1.lay (ho := .own y) x1.ab hdy
    have hy1 : (SS.lay ⟨σ, e1, A1, H1⟩ dy (.own y)).H y = none := by
      show upd H1 dy (.own y) y = none
      rw [upd_ne (Ne.symm ne)]
      exact hy
    have s2 := St1.lay (ho := .ins C dy (ns.zip vs)) s1.ab hy1
    have st := s1.trans x1.ab s2
    refine h1 (.ref y) _ rfl st ⟨?_, trivial⟩
    refine ⟨y, C, dy, vs, rfl, hm, hid_some.mpr ⟨fun z => ?_, upd_same⟩, by omega, ?_⟩
    · obtain ⟨o, e⟩ := x1.ab.dom y z
      have e' : H1 y = some o := e
      rw [hy] at e'
      cases e'
    · exact RepL.le (st.nx.hid x1.ab) _ _ hr1
  · exact h1.elim
/-- o.f, o of the class c -/
def eFld (c fl : Str) (f : F1) : F1 := fun e => match f e with
  | .ok (.dat (.ins c' ns ds)) e1 => if c' = c then match (ns.zip ds).lookup fl with
    | some d => .ok (.dat d) e1
    | none => .bot
    else .bot
  | _ => .bot
theorem zip_look {R : RC} {H : Hp} {fl : Str} {d : D} : ∀ {ns : List Str} {ds : List D} {vs : List V}, RepL R H ds vs → (ns.zip ds).lookup fl = some d → ∃ v, (ns.zip vs).lookup fl = some v ∧ Rep R H d v
  | [], ds, vs, _, h => by simp at h
  | n :: ns, [], vs, _, h => by simp at h
  | n :: ns, e :: ds, _, r, h => by
    obtain ⟨v, ws, rfl, p, q⟩ := r
    rw [List.zip_cons_cons, List.lookup_cons] at h ⊢
    cases hh : fl == n with
    | true =>
      rw [hh] at h
      cases h
      exact ⟨v, rfl, p⟩
    | false =>
      rw [hh] at h
      exact zip_look q h
theorem de_fld {C : Addr} {cn fl : Str} (hm : X.mg cn = some (.ref C)) (cl : Cls X.K C) (no : NoAttr X.K C fl) (ha : DE X fx W a f) (hat : attributeBase a fl X.env (eval a X.env) = eval a X.env := by rfl) : DE X fx W (.Attribute a fl pos) (eFld cn fl f) := by
  refine PE.imp (pe_fld ha hat) fun σ H Q q => ?_
  obtain ⟨e, A, a0, q⟩ := q
  refine ⟨e, A, a0, ?_⟩
  unfold eFld at q
  cases ho : f e with
  | bot => rw [ho] at q; exact q.elim
  | ex x e1 => rw [ho] at q; exact q.elim
  | ok pv e1 =>
    rw [ho] at q
    cases pv with
    | fresh d => exact q.elim
    | pk i => exact q.elim
    | dat d =>
      cases d with
      | ins c' ns ds =>
        dsimp only at q
        split at q
        · rename_i hc
          split at q
          · rename_i d hd
            intro v t et st r
            obtain ⟨y, C', dx, vs, rfl, m1, m2, m3, m4⟩ := (show Rep (rc X) (hid t.A t.H) (.ins c' ns ds) v from r.1)
            rw [hc, show (rc X).mg cn = X.mg cn from rfl, hm] at m1
            cases m1
            obtain ⟨u, l1, l2⟩ := zip_look m4 hd
            refine ⟨y, C, dx, _, u, rfl, (hid_some.mp m2).2, cl, no, l1, ?_⟩
            exact q u t et st ⟨l2, trivial⟩
          · exact q.elim
        · exact q.elim
      | _ => exact q.elim
def noX (o : EO PV) : EO PV := match o with
  | .ex _ _ => .bot
  | o => o
theorem noX_post {R : RC} {W' : WX} {s : SS} {Q : VK} {o : EO PV} (h : EPost (RE R fx) W s Q (noX o)) : EPost (RE R fx) W' s Q o := by
  cases o with
  | ok p e => exact h
  | ex x e => exact h.elim
  | bot => exact h
/-- o.m(e, ..), m a method of o's class that raises nothing -/
def eMth (m : Str) (tbl : List (Str × Fn)) (f : F1) (fs : List F1) : F1 := fun e => match f e with
  | .ok (.dat (.ins c ns ds)) e1 => match tbl.lookup c with
    | some F => if ns.contains m = false then (eArgs fs e1).bind fun ps e2 => noX (callR none F (.dat (.ins c ns ds) :: ps) e2) else .bot
    | none => .bot
  | _ => .bot
theorem zip_none {fl : Str} : ∀ {ns : List Str} {vs : List V}, ns.contains fl = false → (ns.zip vs).lookup fl = none
  | [], vs, _ => rfl
  | n :: ns, [], _ => rfl
  | n :: ns, v :: vs, h => by
    rw [List.contains_cons, Bool.or_eq_false_iff] at h
    rw [List.zip_cons_cons, List.lookup_cons, h.1]
    exact zip_none h.2
structure MthOk (X : Cx) (m cn : Str) (np : Nat) (F : Fn) : Prop where
  ex : ∃ (C fa : Addr) (fd : FuncData) (ps : List Str) (k : Nat), X.mg cn = some (.ref C) ∧ Cls X.K C ∧ Meth X.K C m fa ∧ FnOk X.prog X.w X.K X.mg X.base (L2N.CX X.prog X.w) k fa fd ps (spD (rc X) none np F) ∧ Room k X.A ∧ Binds X.K fd ps []
theorem de_mth {m : Str} {apos : Pos} {tbl : List (Str × Fn)} {pl : Sem Bool} (hT : ∀ cn F, tbl.lookup cn = some F → MthOk X m cn (fs.length + 1) F) (ho : DE X fx W b f) (ha : DA X fx W (a :: es) (eArgs fs))
    (hst : starEach (a :: es) X.env = (false, eval a X.env) :: starEach es X.env := by rfl) (hpl : (backTo pos (starEach es X.env)).any (·.1) = false := by rfl)
    (ht : eval (.Call (.Attribute b m apos) (a :: es) [] pos) X.env = (do
      let ov ← eval b X.env
      standAt apos.atName
      let (f, first) ← holding [ov] (getMethod ov m pl)
      callWith pos f first (backTo pos (starEach (a :: es) X.env)) (backToKw pos (keywordEach [] X.env))) := by rfl) :
    DE X fx W (.Call (.Attribute b m apos) (a :: es) [] pos) (eMth m tbl f fs) := by
  refine ⟨fun pins s σ H Q I q => ?_⟩
  obtain ⟨e, A, a0, q⟩ := q
  unfold eMth at q
  cases hf : f e with
  | bot => rw [hf] at q; exact q.elim
  | ex x e1 => rw [hf] at q; exact q.elim
  | ok pv e1 =>
    rw [hf] at q
    cases pv with
    | fresh d => exact q.elim
    | pk i => exact q.elim
    | dat d =>
      cases d with
      | ins c' ns ds =>
        dsimp only at q
        split at q
        · rename_i F hF
          split at q
          · rename_i hn
            obtain ⟨C, fa, fd, ps, k, m1, cl, me, G, hr, bi⟩ := (hT _ _ hF).ex
            refine (pe_meth (pl := pl) (E := fun _ _ _ => False) ho cl me G hr bi .nil (pass_none fun _ _ _ h => h) ha hst hpl ht).run pins s σ H Q I ?_
            refine ⟨e, A, a0, ?_⟩
            rw [hf]
            intro v t et st r
            obtain ⟨y, C', dx, vs, rfl, n1, n2, n3, n4⟩ := (show Rep (rc X) (hid t.A t.H) (.ins c' ns ds) v from r.1)
            rw [show (rc X).mg c' = X.mg c' from rfl, m1] at n1
            cases n1
            refine ⟨y, dx, _, rfl, (hid_some.mp n2).2, zip_none hn, ?_⟩
            obtain ⟨σ', e', A', H'⟩ := t
            obtain rfl : σ' = σ := st.eq
            obtain rfl : e' = e1 := et
            have q2 := EPost.later a0 st q
            refine ⟨e', A', st.ab, ((EPost.bnd st.ab q2).and (P := fun ws => ws.length = fs.length) fun ws u qs e3 hh rr => ?_).mono fun ws H2 ⟨⟨e2, A2, qs, x2, r2, h2, _⟩, hz⟩ => ?_⟩
            · rw [SrL.len rr, eArgs_len hh]
            · have r0 : SrL (rc X) ⟨σ', e2, A2, H2⟩ (.ref y :: ws) (.dat (.ins c' ns ds) :: qs) := ⟨Sr.step st.ab x2 (show Sr (rc X) ⟨σ', e', A', H'⟩ (.ref y) (.dat (.ins c' ns ds)) from r.1), r2⟩
              have := call_post (W := fun _ _ _ _ => False) (s := ⟨σ', e2, A2, H2⟩) x2.ab r0 (noX_post h2)
              rw [List.append_nil]
              rw [List.length_cons, hz] at this
              exact this
          · exact q.elim
        · exact q.elim
      | _ => exact q.elim
end
theorem tb_nil {P : Str → Fn → Prop} : ∀ cn F, ([] : List (Str × Fn)).lookup cn = some F → P cn F := fun _ _ h => nomatch h
theorem tb_cons {P : Str → Fn → Prop} {c : Str} {F0 : Fn} {tbl : List (Str × Fn)} (h : P c F0) (r : ∀ cn F, tbl.lookup cn = some F → P cn F) : ∀ cn F, ((c, F0) :: tbl).lookup cn = some F → P cn F := fun cn F q => by
  rw [List.lookup_cons] at q
  cases hh : cn == c with
  | true =>
    rw [hh] at q
    cases q
    rw [eq_of_beq hh]
    exact h
  | false =>
    rw [hh] at q
    exact r cn F q
end DL

set_option Elab.async false
set_option linter.all false
set_option maxRecDepth 100000
/-! Reckoning with instances; walks as plain fractions. -/
namespace DL
open PySem PySem.Spec L2
section
variable (e e1 : DEnv) (f : F1) (fs : List F1) (m c fl : Str) (ns : List Str) (ds : List D) (tbl : List (Str × Fn))
def mkQ (c : Str) (ns : List Str) (ds : List D) (e : DEnv) (b : Bool) : EO PV := if b = true then .ok (.dat (.ins c ns ds)) e else .bot
def mkK (c : Str) (ns : List Str) (ds : List D) (e : DEnv) : EO PV := mkQ c ns ds e (decide (ds.length = ns.length))
theorem k_mk : eMk c ns fs e = (eItems fs e).bind (mkK c ns) := by
  unfold eMk mkK mkQ
  congr 1
  funext ds e1
  by_cases h : ds.length = ns.length <;> simp [h]
theorem k_mkK : mkK c ns ds e = mkQ c ns ds e (decide (ds.length = ns.length)) := rfl
theorem k_mkQ : mkQ c ns ds e true = .ok (.dat (.ins c ns ds)) e := rfl
def fldL (e : DEnv) (o : Option D) : EO PV := match o with
  | some d => .ok (.dat d) e
  | none => .bot
def fldF (c fl : Str) (o : EO PV) : EO PV := match o with
  | .ok (.dat (.ins c' ns ds)) e1 => if c' = c then fldL e1 ((ns.zip ds).lookup fl) else .bot
  | _ => .bot
theorem k_fld : eFld c fl f e = fldF c fl (f e) := by
  unfold eFld fldF fldL
  rfl
theorem k_fldF : fldF c fl (.ok (.dat (.ins c ns ds)) e) = fldL e ((ns.zip ds).lookup fl) := by unfold fldF; dsimp only; rw [if_pos rfl]
theorem k_fldL (d : D) : fldL e (some d) = .ok (.dat d) e := rfl
def mthC (F : Fn) (fs : List F1) (c : Str) (ns : List Str) (ds : List D) (e1 : DEnv) (b : Bool) : EO PV := if b = false then (eArgs fs e1).bind fun ps e2 => noX (callR none F (.dat (.ins c ns ds) :: ps) e2) else .bot
def mthL (m : Str) (fs : List F1) (c : Str) (ns : List Str) (ds : List D) (e1 : DEnv) (o : Option Fn) : EO PV := match o with
  | some F => mthC F fs c ns ds e1 (ns.contains m)
  | none => .bot
def mthF (m : Str) (tbl : List (Str × Fn)) (fs : List F1) (o : EO PV) : EO PV := match o with
  | .ok (.dat (.ins c ns ds)) e1 => mthL m fs c ns ds e1 (tbl.lookup c)
  | _ => .bot
theorem k_mth : eMth m tbl f fs e = mthF m tbl fs (f e) := by
  unfold eMth mthF mthL mthC
  rfl
theorem k_mthF : mthF m tbl fs (.ok (.dat (.ins c ns ds)) e) = mthL m fs c ns ds e (tbl.lookup c) := rfl
theorem k_mthL (F : Fn) : mthL m fs c ns ds e (some F) = mthC F fs c ns ds e (ns.contains m) := rfl
def mthA (F : Fn) (c : Str) (ns : List Str) (ds : List D) (ps : List PV) (e2 : DEnv) : EO PV := noX (callR none F (.dat (.ins c ns ds) :: ps) e2)
theorem k_mthC (F : Fn) : mthC F fs c ns ds e false = (eArgs fs e).bind (mthA F c ns ds) := rfl
theorem k_mthA (F : Fn) (ps : List PV) : mthA F c ns ds ps e = noX (callR none F (.dat (.ins c ns ds) :: ps) e) := rfl
theorem k_noX (p : PV) : noX (.ok p e) = .ok p e := rfl
theorem k_nl_ins : nolst (.ins c ns ds) = nolsts ds := by simp [nolst]
end
theorem k_nl_lst (ds : List D) : nolst (.lst ds) = false := by simp [nolst]
theorem q_last (xs : List D) (d : D) : ixD (.lst (xs ++ [d])) (.int (-1)) = some (.dat d) := by
  rw [x_lst, a_neg _ _ (by decide) (by simp only [List.length_append, List.length_cons, List.length_nil]; omega)]
  have : ((((xs ++ [d]).length : Nat) : Int) + -1).toNat = xs.length := by
    simp only [List.length_append, List.length_cons, List.length_nil]
    omega
  rw [this, List.getElem?_append_right (Nat.le_refl _), Nat.sub_self]
  rfl
theorem q_last2 (xs : List D) (d : D) : (xs ++ [d])[(((xs ++ [d]).length : Int) + -1).toNat]? = some d := by
  have : ((((xs ++ [d]).length : Nat) : Int) + -1).toNat = xs.length := by
    simp only [List.length_append, List.length_cons, List.length_nil]
    omega
  rw [this, List.getElem?_append_right (Nat.le_refl _), Nat.sub_self]
  rfl
theorem q_last1 (d : D) : ixD (.lst [d]) (.int (-1)) = some (.dat d) := q_last [] d
/-- what lets a ray by -/
def passes (r : Ry) : Pc → Bool
  | .stop a b => !decide (r.y < a) && !decide (b < r.y)
  | _ => true
/-- the rays behind the pieces come through -/
def wkR : List Pc → Ry → List Ry
  | [], _ => []
  | p :: ps, r => if passes r p = true then bend r p :: wkR ps (bend r p) else []
/-- the number of the piece that stops it -/
def wkS : List Pc → Ry → Nat → Option Nat
  | [], _, _ => none
  | p :: ps, r, n => if passes r p = true then wkS ps (bend r p) (n + 1) else some n
def optD (o : Option Nat) : D := match o with
  | some n => .int n
  | none => .non
theorem q_isn_opt (o : Option Nat) : isNon (optD o) = o.isNone := by cases o <;> rfl
/-- the last of them -/
def wkL (ps : List Pc) (r : Ry) : Ry := (wkR ps r).getLastD r
theorem wk_last : ∀ (ps : List Pc) (r : Ry) (n : Nat), wkS ps r n = none → wkL ps r = bends ps r
  | [], r, _, _ => rfl
  | p :: ps, r, n, h => by
    unfold wkS at h
    unfold wkL wkR
    by_cases hp : passes r p = true
    · rw [if_pos hp] at h ⊢
      have := wk_last ps (bend r p) (n + 1) h
      rw [List.getLastD_cons]
      exact this
    · rw [if_neg hp] at h
      cases h
theorem wk_split : ∀ (ps : List Pc) (r : Ry), ∃ pre, r :: wkR ps r = pre ++ [wkL ps r]
  | ps, r => by
    unfold wkL
    generalize wkR ps r = rs
    induction rs generalizing r with
    | nil => exact ⟨[], rfl⟩
    | cons x xs ih =>
      obtain ⟨pre, e⟩ := ih x
      refine ⟨r :: pre, ?_⟩
      rw [List.getLastD_cons, List.cons_append, ← e]
theorem wkS_shift : ∀ (ps : List Pc) (r : Ry) (n : Nat), wkS ps r n = (wkS ps r 0).map (· + n)
  | [], _, _ => rfl
  | p :: ps, r, n => by
    unfold wkS
    by_cases hp : passes r p = true
    · rw [if_pos hp, if_pos hp, wkS_shift ps _ (n + 1), wkS_shift ps _ (0 + 1)]
      cases wkS ps (bend r p) 0 with
      | none => rfl
      | some k => simp; omega
    · rw [if_neg hp, if_neg hp]
      simp
theorem wk_len : ∀ (ps : List Pc) (r : Ry), (wkR ps r).length ≤ ps.length
  | [], _ => Nat.le_refl _
  | p :: ps, r => by
    unfold wkR
    split
    · simp only [List.length_cons]
      have := wk_len ps (bend r p)
      omega
    · simp
theorem wkR_pos {p : Pc} {ps : List Pc} {r : Ry} (h : passes r p = true) : wkR (p :: ps) r = bend r p :: wkR ps (bend r p) := by rw [wkR, if_pos h]
theorem wkR_neg {p : Pc} {ps : List Pc} {r : Ry} (h : ¬ passes r p = true) : wkR (p :: ps) r = [] := by rw [wkR, if_neg h]
theorem wkS_pos {p : Pc} {ps : List Pc} {r : Ry} {n : Nat} (h : passes r p = true) : wkS (p :: ps) r n = wkS ps (bend r p) (n + 1) := by rw [wkS, if_pos h]
theorem wkS_neg {p : Pc} {ps : List Pc} {r : Ry} {n : Nat} (h : ¬ passes r p = true) : wkS (p :: ps) r n = some n := by rw [wkS, if_neg h]
theorem wkL_pos {p : Pc} {ps : List Pc} {r : Ry} (h : passes r p = true) : wkL (p :: ps) r = wkL ps (bend r p) := by
  unfold wkL
  rw [wkR_pos h, List.getLastD_cons]
theorem wkL_neg {p : Pc} {ps : List Pc} {r : Ry} (h : ¬ passes r p = true) : wkL (p :: ps) r = r := by
  unfold wkL
  rw [wkR_neg h]
  rfl
/-- two benches, one behind the other -/
theorem wkR_app : ∀ (ps qs : List Pc) (r : Ry), wkR (ps ++ qs) r = if (wkS ps r 0).isNone = true then wkR ps r ++ wkR qs (wkL ps r) else wkR ps r
  | [], qs, r => rfl
  | p :: ps, qs, r => by
    rw [List.cons_append]
    by_cases hp : passes r p = true
    · rw [wkR_pos hp, wkR_pos hp, wkS_pos hp, wkL_pos hp, wkR_app ps qs, wkS_shift ps _ (0 + 1)]
      cases wkS ps (bend r p) 0 with
      | none => simp
      | some k => simp
    · rw [wkR_neg hp, wkR_neg hp, wkS_neg hp]
      simp
theorem wkS_app : ∀ (ps qs : List Pc) (r : Ry), wkS (ps ++ qs) r 0 = if (wkS ps r 0).isNone = true then (wkS qs (wkL ps r) 0).map (· + ps.length) else wkS ps r 0
  | [], qs, r => by
    rw [List.nil_append]
    show wkS qs r 0 = (wkS qs r 0).map (· + 0)
    simp
  | p :: ps, qs, r => by
    rw [List.cons_append]
    by_cases hp : passes r p = true
    · rw [wkS_pos hp, wkS_pos hp, wkL_pos hp, wkS_shift, wkS_shift ps, wkS_app ps qs]
      cases wkS ps (bend r p) 0 with
      | none =>
        simp only [Option.isNone_none, if_true, Option.map_none, List.length_cons]
        cases wkS qs (wkL ps (bend r p)) 0 with
        | none => rfl
        | some k => simp; omega
      | some k => simp
    · rw [wkS_neg hp, wkS_neg hp]
      simp
theorem rngL_succ (lo : Int) (n : Nat) : rngL lo (n + 1) = .int lo :: rngL (lo + 1) n := by
  unfold rngL
  rw [List.range_succ_eq_map, List.map_cons, List.map_map]
  congr 1
  · simp
  · apply List.map_congr_left
    intro i _
    show D.int _ = D.int _
    congr 1
    simp only [Nat.succ_eq_add_one]
    omega
theorem rngL_zero (lo : Int) : rngL lo 0 = [] := rfl
theorem compR_exF {α : Type} {tg : FG} {t : FB} {f : F1} {vs : List Nat} {w : DEnv} (out : α → D) (P : α → Prop) : ∀ (ds acc : List D), (∀ d ∈ ds, (∃ a, turn tg t f vs d w = .ok (some (out a)) w ∧ P a) ∨ turn tg t f vs d w = .ok none w) → ∃ as : List α, compR tg t f vs ds acc w = .ok (acc ++ as.map out) w ∧ as.length ≤ ds.length ∧ ∀ a ∈ as, P a
  | [], acc, _ => ⟨[], by simp [compR], Nat.le_refl _, by simp⟩
  | d :: ds, acc, h => by
    rcases h d List.mem_cons_self with ⟨a, h1, h2⟩ | h1
    · obtain ⟨as, h3, h4, h5⟩ := compR_exF out P ds (acc ++ [out a]) fun x hx => h x (List.mem_cons_of_mem _ hx)
      refine ⟨a :: as, ?_, by simp; omega, fun x hx => ?_⟩
      · rw [compR_cons h1]
        show compR tg t f vs ds (acc ++ [out a]) w = _
        rw [h3]
        simp
      · rcases List.mem_cons.mp hx with rfl | z
        · exact h2
        · exact h5 x z
    · obtain ⟨as, h3, h4, h5⟩ := compR_exF out P ds acc fun x hx => h x (List.mem_cons_of_mem _ hx)
      refine ⟨as, ?_, by simp; omega, h5⟩
      rw [compR_cons h1]
      show compR tg t f vs ds (acc ++ []) w = _
      rw [List.append_nil, h3]
theorem forR_rt {g : FG} {F : FS} {d : D} {ds : List D} {e e1 e2 : DEnv} {p : PV} (h1 : g d e = some e1) (h2 : F e1 = .rt p e2) : forR g F (d :: ds) e = .rt p e2 := by rw [forR, h1]; dsimp only; rw [h2]
theorem forR_bk {g : FG} {F : FS} {d : D} {ds : List D} {e e1 e2 : DEnv} (h1 : g d e = some e1) (h2 : F e1 = .bk e2) : forR g F (d :: ds) e = .nx e2 := by rw [forR, h1]; dsimp only; rw [h2]
theorem rng1_len (n : Nat) (h : n ≤ 1000000) : rng1 [.int (n : Int)] = some (rngL 0 n) := by
  have := rng1_ok (n : Int) (by omega)
  rwa [Int.toNat_natCast] at this
end DL

set_option Elab.async false
set_option linter.all false
set_option maxRecDepth 100000
/-! Rays together, halfway, through benches without stops. -/
namespace DL
open PySem PySem.Spec L2
def Ry.add (r s : Ry) : Ry := ⟨r.y + s.y, r.u + s.u⟩
def Ry.by (f : Rat) (r : Ry) : Ry := ⟨f * r.y, f * r.u⟩
theorem bend_add (r s : Ry) (p : Pc) : bend (r.add s) p = (bend r p).add (bend s p) := by
  cases p <;> apply Ry.ext' <;> simp only [bend, Ry.add] <;> grind
theorem bend_by (f : Rat) (r : Ry) (p : Pc) : bend (r.by f) p = (bend r p).by f := by
  cases p <;> apply Ry.ext' <;> simp only [bend, Ry.by] <;> grind
theorem bends_add : ∀ (ps : List Pc) (r s : Ry), bends ps (r.add s) = (bends ps r).add (bends ps s)
  | [], _, _ => rfl
  | p :: ps, r, s => by
    show bends ps (bend (r.add s) p) = _
    rw [bend_add, bends_add ps]
    rfl
theorem bends_by (f : Rat) : ∀ (ps : List Pc) (r : Ry), bends ps (r.by f) = (bends ps r).by f
  | [], _ => rfl
  | p :: ps, r => by
    show bends ps (bend (r.by f) p) = _
    rw [bend_by, bends_by f ps]
    rfl
def plain (ps : List Pc) : List Pc := ps.filter fun p => !isStop p
theorem bends_plain : ∀ (ps : List Pc) (r : Ry), bends (plain ps) r = bends ps r
  | [], _ => rfl
  | p :: ps, r => by
    unfold plain
    rw [List.filter_cons]
    cases p with
    | gap q => exact bends_plain ps (bend r (.gap q))
    | glass q => exact bends_plain ps (bend r (.glass q))
    | stop a b => exact bends_plain ps r
theorem tbs_plain : ∀ (ps : List Pc), tbs (plain ps) = tbs ps
  | [] => rfl
  | p :: ps => by
    unfold plain
    rw [List.filter_cons, tbs_cons]
    cases p with
    | gap q => 
      show tbs (.gap q :: plain ps) = _
      rw [tbs_cons, tbs_plain ps]
    | glass q => 
      show tbs (.glass q :: plain ps) = _
      rw [tbs_cons, tbs_plain ps]
    | stop a b =>
      show tbs (plain ps) = Tb.one.andThen _
      rw [Tb.one_then, tbs_plain ps]
theorem wkS_nostop : ∀ (ps : List Pc) (r : Ry) (n : Nat), (∀ p ∈ ps, isStop p = false) → wkS ps r n = none
  | [], _, _, _ => rfl
  | p :: ps, r, n, h => by
    have h1 := h p List.mem_cons_self
    have hp : passes r p = true := by
      cases p with
      | gap q => rfl
      | glass q => rfl
      | stop a b => cases h1
    rw [wkS_pos hp]
    exact wkS_nostop ps _ _ fun q hq => h q (List.mem_cons_of_mem _ hq)
theorem wkS_plain (ps : List Pc) (r : Ry) (n : Nat) : wkS (plain ps) r n = none := wkS_nostop _ _ _ fun p hp => by
  have := (List.mem_filter.mp hp).2
  simpa using this
theorem plain_len (ps : List Pc) : (plain ps).length ≤ ps.length := List.length_filter_le _ _
theorem plain_mem {ps : List Pc} {p : Pc} (h : p ∈ plain ps) : p ∈ ps := (List.mem_filter.mp h).1
theorem plain_all {w : Nat} {ps : List Pc} (h : ∀ p ∈ ps, PcW w p) : ∀ p ∈ plain ps, PcW w p := fun p z => h p (plain_mem z)
theorem wkS_none {p : Pc} {ps : List Pc} {r : Ry} {n : Nat} (h : wkS (p :: ps) r n = none) : passes r p = true ∧ wkS ps (bend r p) (n + 1) = none := by
  by_cases hp : passes r p = true
  · rw [wkS_pos hp] at h
    exact ⟨hp, h⟩
  · rw [wkS_neg hp] at h
    cases h
theorem passes_half {r s : Ry} {p : Pc} (h : passes r p = true) (h2 : passes s p = true) : passes ((r.add s).by (1 / 2)) p = true := by
  cases p with
  | gap q => rfl
  | glass q => rfl
  | stop a b =>
    have h' : (!decide (r.y < a) && !decide (b < r.y)) = true := h
    have h2' : (!decide (s.y < a) && !decide (b < s.y)) = true := h2
    simp only [Bool.and_eq_true, Bool.not_eq_true', decide_eq_false_iff_not] at h' h2'
    show (!decide ((1 / 2) * (r.y + s.y) < a) && !decide (b < (1 / 2) * (r.y + s.y))) = true
    simp only [Bool.and_eq_true, Bool.not_eq_true', decide_eq_false_iff_not]
    constructor <;> grind
theorem wkS_half : ∀ (ps : List Pc) (r s : Ry) (n : Nat), wkS ps r n = none → wkS ps s n = none → wkS ps ((r.add s).by (1 / 2)) n = none
  | [], _, _, _, _, _ => rfl
  | p :: ps, r, s, n, h, h2 => by
    obtain ⟨a, b⟩ := wkS_none h
    obtain ⟨c, d⟩ := wkS_none h2
    rw [wkS_pos (passes_half a c), bend_by, bend_add]
    exact wkS_half ps _ _ _ b d
theorem lit_half : D.tup [.int 1, .int 2] = qD (1 / 2) := by
  have h := q_pos 1 2 (by decide)
  have e : Rat.divInt 1 2 = 1 / 2 := by decide +kernel
  rw [e] at h
  rw [← h]
  rfl
theorem d_shr (i j : Int) (h : 0 ≤ j) : shrD (.int i) (.int j) = some (.dat (.int (i / 2 ^ j.toNat))) := if_pos h
theorem wkS_lt : ∀ (ps : List Pc) (r : Ry) (n j : Nat), wkS ps r n = some j → n ≤ j ∧ j < n + ps.length
  | [], _, _, _, h => by cases h
  | p :: ps, r, n, j, h => by
    by_cases hp : passes r p = true
    · rw [wkS_pos hp] at h
      have := wkS_lt ps _ _ _ h
      simp only [List.length_cons]
      omega
    · rw [wkS_neg hp] at h
      cases h
      simp only [List.length_cons]
      omega
theorem wk_full : ∀ (ps : List Pc) (r : Ry) (n : Nat), wkS ps r n = none → (wkR ps r).length = ps.length
  | [], _, _, _ => rfl
  | p :: ps, r, n, h => by
    obtain ⟨hp, h2⟩ := wkS_none h
    rw [wkR_pos hp, List.length_cons, List.length_cons, wk_full ps _ _ h2]
theorem wk_at (ps qs : List Pc) (r : Ry) (h : wkS ps r 0 = none) : (r :: wkR (ps ++ qs) r)[ps.length]? = some (bends ps r) := by
  have e1 := wkR_app ps qs r
  rw [h] at e1
  simp only [Option.isNone_none, if_true] at e1
  obtain ⟨pre, hs⟩ := wk_split ps r
  have l := wk_full ps r 0 h
  have b := congrArg List.length hs
  simp only [List.length_append, List.length_cons, List.length_nil] at b
  rw [wk_last ps r 0 h] at hs
  rw [e1, ← List.cons_append, hs, List.append_assoc, List.getElem?_append_right (by omega)]
  have : ps.length - pre.length = 0 := by omega
  rw [this]
  rfl
theorem d_int_bl (b : Bool) : intD [.bl b] = some (.dat (.int (if b = true then 1 else 0))) := by cases b <;> rfl
theorem d_int_t : intD [.bl true] = some (.dat (.int 1)) := rfl
theorem d_int_f : intD [.bl false] = some (.dat (.int 0)) := rfl
end DL

set_option Elab.async false
set_option linter.all false
set_option maxRecDepth 100000
set_option maxHeartbeats 1000000
/-! xs[a:b:c], c a number of the text, above 0 -/
namespace DL
open PySem PySem.Spec L2
/-- the places of a slice with a step -/
def placesBy (n : Nat) (lo hi : Option Int) (c : Int) : List Nat := sliceRange (sliceBounds lo hi (some c) n).1 (sliceBounds lo hi (some c) n).2.1 c
def pickBy {α : Type} (js : List Nat) (xs : List α) : List α := js.filterMap fun j => xs[j]?
def everyA {α : Type} (xs : List α) (lo hi : Option Int) (c : Int) : List α := pickBy (placesBy xs.length lo hi c) xs
theorem pickBy_cons {α : Type} (j : Nat) (js : List Nat) (xs : List α) : pickBy (j :: js) xs = match xs[j]? with
    | some x => x :: pickBy js xs
    | none => pickBy js xs := by
  unfold pickBy
  cases h : xs[j]? with
  | none => simp [List.filterMap_cons, h]
  | some x => simp [List.filterMap_cons, h]
theorem Vals.picks {xs : List V} {us : List Value} (r : Vals xs us) : ∀ js : List Nat, Vals (pickBy js xs) (pickBy js us)
  | [] => .nil
  | j :: js => by
    have ih := Vals.picks r js
    rw [pickBy_cons, pickBy_cons]
    cases h : xs[j]? with
    | none =>
      have l := r.length
      have : us[j]? = none := by rw [List.getElem?_eq_none_iff] at h ⊢; omega
      simp only [this]
      exact ih
    | some x =>
      obtain ⟨u, e, q⟩ := r.get h
      simp only [e]
      exact .cons q ih
theorem RepL.picks {R : RC} {H : Hp} {ds : List D} {vs : List V} (r : RepL R H ds vs) : ∀ js : List Nat, RepL R H (pickBy js ds) (pickBy js vs)
  | [] => rfl
  | j :: js => by
    have ih := RepL.picks r js
    rw [pickBy_cons, pickBy_cons]
    cases h : ds[j]? with
    | none =>
      have l := RepL.length r
      have : vs[j]? = none := by rw [List.getElem?_eq_none_iff] at h ⊢; omega
      simp only [this]
      exact ih
    | some x =>
      obtain ⟨u, e, q⟩ := r.get h
      simp only [e]
      exact ⟨u, _, rfl, q, ih⟩
theorem pick_every (us : List Value) (lo hi : Option Int) (c : Int) : slicePick us.toArray lo hi (some c) = (everyA us lo hi c).toArray := by
  unfold slicePick everyA pickBy placesBy
  simp [sliceBounds]
theorem mem_every {α : Type} {xs : List α} {lo hi : Option Int} {c : Int} {x : α} (h : x ∈ everyA xs lo hi c) : x ∈ xs := by
  unfold everyA pickBy at h
  obtain ⟨j, _, e⟩ := List.mem_filterMap.mp h
  exact List.mem_of_getElem? e
theorem every_map {α β : Type} (f : α → β) (xs : List α) (lo hi : Option Int) (c : Int) : everyA (xs.map f) lo hi c = (everyA xs lo hi c).map f := by
  unfold everyA pickBy
  rw [List.length_map, List.map_filterMap]
  congr 1
  funext j
  rw [List.getElem?_map]
theorem every_le {α : Type} (xs : List α) (lo hi : Option Int) (c : Int) : (everyA xs lo hi c).length ≤ xs.length := by
  have z := slicePick_size_le ((List.replicate xs.length Value.none).toArray) lo hi (some c)
  rw [pick_every, List.size_toArray, List.size_toArray, List.length_replicate] at z
  have e1 : (everyA (List.replicate xs.length Value.none) lo hi c) = (everyA xs lo hi c).map fun _ => Value.none := by
    rw [← every_map]
    congr 1
    exact List.map_const'.symm
  rw [e1, List.length_map] at z
  exact z
theorem pickBy_le {α : Type} (js : List Nat) (xs : List α) : (pickBy js xs).length ≤ js.length := List.length_filterMap_le _ _
/-- how many a slice with a step has at most -/
theorem every_few {α : Type} (xs : List α) (lo hi : Option Int) (c : Nat) (hc : 0 < c) : (everyA xs lo hi c).length ≤ (xs.length + c - 1) / c := by
  refine Nat.le_trans (pickBy_le _ _) ?_
  have hc' : (c : Int) > 0 := by omega
  unfold placesBy sliceRange
  rw [List.length_map, List.length_range, if_pos hc']
  have key : ∀ a b : Int, 0 ≤ a → b ≤ xs.length → (if a < b then (b - a + c - 1) / (c : Int) else 0).toNat ≤ (xs.length + c - 1) / c := by
    intro a b h1 h2
    split
    · have e : (b - a + c - 1) / (c : Int) ≤ ((xs.length + c - 1 : Nat) : Int) / (c : Int) := Int.ediv_le_ediv hc' (by omega)
      rw [← Int.natCast_ediv] at e
      exact Int.toNat_le.mpr e
    · exact Nat.zero_le _
  apply key
  · simp only [sliceBounds, Option.getD_some, hc', if_true]
    cases lo with
    | none => simp
    | some i => dsimp only; omega
  · simp only [sliceBounds, Option.getD_some, hc', if_true]
    cases hi with
    | none => simp
    | some i => dsimp only; omega
section
variable {X : Cx} {fx : List (Nat × V)} {W : WX} {pos : Pos} {a b c : Expr} {f g h : F1}
/-- xs[lo:hi:k] of a list: a new list -/
theorem pe_by {e : Expr} {te : TE} {lo hi : Option Expr} {tl tu : TO} {i : Int} {k : Nat} {p1 p2 : Pos} (i0 : i ≠ 0) (he : PE X e te) (hl : PO X lo tl) (hu : PO X hi tu)
    (tg : ∀ o r, letTemporaryGo e o r = pure () := by intro _ _; rfl) :
    PE X (.Subscript e (.Slice lo hi (some (.Constant (.int i) k p1)) p2) pos)
      (fun σ H Q => te σ H fun x H1 => tl σ H1 fun l H2 => tu σ H2 fun u H3 => ∃ (p : Addr) (xs : List V), x = .ref p ∧ SqL X.K H3 p xs ∧ ∀ q, H3 q = none → Q (.ref q) (upd H3 q (.lst (everyA xs l u i)))) := by
  constructor
  intro pins s σ H Q I w
  apply wpAny_Subscript_Slice_step slot_list_getitem.lookup (ht := tg)
  apply thn (he.run pins s σ H _ I w)
  rintro v s1 ⟨x, H1, I1, rx, w1⟩
  apply wpAny_Slice
  apply thn (hl.run pins s1 σ H1 _ I1 w1)
  rintro vl s2 ⟨l, H2, I2, pl, w2⟩
  apply thn (hu.run pins s2 σ H2 _ I2 w2)
  rintro vu s3 ⟨u, H3, I3, pu, w3⟩
  have st : PO X (some (.Constant (.int i) k p1)) (tPart (tC (.int i))) := po_some pe_int
  apply thn (st.run pins s3 σ H3 (fun o H4 => o = some i ∧ H4 = H3) I3 ⟨i, rfl, rfl, rfl⟩)
  rintro vs s4 ⟨o, H4, I4, ps, rfl, rfl⟩
  obtain ⟨p, xs, rfl, sq, k3⟩ := w3
  obtain rfl : v = Value.ref p := rx
  let so : Obj := { cls := .type "slice", data := .fields #[vl, vu, vs] }
  have I5 : Inv X pins σ H4 { s4 with heap := s4.heap.push so } := I4.kept (t' := s4.toks) fun _ _ z => Heap.get?_push_of_some _ z
  obtain ⟨us, ru, il, few⟩ := I5.list sq
  have il := il.isList
  have len := ru.length
  have le := every_le xs l u i
  refine ⟨il.typeIs, wpAny_getItem_list_slice il (Heap.IsSliceOf.new _ vl vu vs) pl pu ps (fun z => i0 (Option.some.inj z)) ?_ (by rw [List.size_toArray]; omega)⟩
  rw [pick_every]
  have out : ObjOk X.prog X.w (upd H4 (s4.heap.push so).objs.size (.lst (everyA xs l u i))) ((s4.heap.push so).push { cls := .type "list", data := .seq (everyA us l u i).toArray }) (s4.heap.push so).objs.size (.lst (everyA xs l u i)) := by
    refine ⟨by omega, everyA us l u i, 0, ?_, Heap.get?_push_size _ rfl⟩
    unfold everyA
    rw [len]
    exact Vals.picks ru _
  exact ⟨.ref (s4.heap.push so).objs.size, _, I5.laid (t' := s4.toks) (fun _ _ z => Heap.get?_push_of_some _ z) (Nat.le_refl _) out, show RelV (V.ref _) (Value.ref _) from rfl, k3 _ (I5.hok.fresh (Nat.le_refl _))⟩
def byO (lo hi : Option Int) (i : Int) (e : DEnv) (o : Option D) : EO PV := match o with
  | some (.lst xs) => .ok (.fresh (.lst (everyA xs lo hi i))) e
  | _ => .bot
def by3 (p : PV) (i : Int) (lo hi : Option Int) (e : DEnv) : EO PV := byO lo hi i e (res p e)
def by2 (u : FO) (i : Int) (p : PV) (lo : Option Int) (e : DEnv) : EO PV := (u e).bind (by3 p i lo)
def by1 (l u : FO) (i : Int) (p : PV) (e : DEnv) : EO PV := (l e).bind (by2 u i p)
def eBy (f : F1) (l u : FO) (i : Int) : F1 := fun e => (f e).bind (by1 l u i)
theorem de_by {l u : FO} {lo hi : Option Expr} {i : Int} {k : Nat} {p1 p2 : Pos} (i0 : i ≠ 0) (ha : DE X fx W a f) (hl : DP X fx W lo l) (hu : DP X fx W hi u)
    (tg : ∀ o r, letTemporaryGo a o r = pure () := by intro _ _; rfl) : DE X fx W (.Subscript a (.Slice lo hi (some (.Constant (.int i) k p1)) p2) pos) (eBy f l u i) := by
  refine PE.imp (pe_by i0 ha hl hu tg) fun σ H Q q => ?_
  obtain ⟨e, A, a0, q⟩ := q
  refine ⟨e, A, a0, (EPost.bnd a0 q).mono fun x H1 ⟨e1, A1, p, x1, r1, h1, _⟩ => ?_⟩
  unfold by1 at h1
  refine ⟨e1, A1, x1.ab, (EPost.bnd x1.ab h1).mono fun y H2 ⟨e2, A2, lo', x2, r2, h2, _⟩ => ?_⟩
  obtain rfl : y = lo' := r2
  unfold by2 at h2
  refine ⟨e2, A2, x2.ab, (EPost.bnd x2.ab h2).mono fun z H3 ⟨e3, A3, hi', x3, r3, h3, _⟩ => ?_⟩
  obtain rfl : z = hi' := r3
  have rx : Sr (rc X) ⟨σ, e3, A3, H3⟩ x p := Sr.step x2.ab x3 (Sr.step x1.ab x2 r1.1)
  unfold by3 at h3
  cases q1 : res p e3 with
  | none => simp only [q1, byO] at h3; exact h3.elim
  | some d =>
    simp only [q1] at h3
    cases d with
    | lst xs =>
      have rv := Sr.val (s := ⟨σ, e3, A3, H3⟩) x3.ab rx q1
      obtain ⟨n, vs, rfl, h4, h5⟩ := RepV.ref_lst rv
      refine ⟨n, vs, rfl, h4.sq, fun p' hp => ?_⟩
      have st : St1 (rc X) fx ⟨σ, e3, A3, H3⟩ (SS.layO ⟨σ, e3, A3, H3⟩ p' (.lst (everyA vs y z i))) := .layO x3.ab hp
      have rl : RepL (rc X) (hid A3 H3) (everyA xs y z i) (everyA vs y z i) := by
        unfold everyA
        rw [RepL.length h5]
        exact RepL.picks h5 _
      exact h3 (.ref p') _ rfl st ⟨Sr.lst x3.ab hp rl, fun l' e => by cases e; exact hp⟩
    | _ => exact h3.elim
variable {e : DEnv}
theorem k_by (l u : FO) (i : Int) : eBy f l u i e = (f e).bind (by1 l u i) := rfl
theorem k_by1 (l u : FO) (i : Int) (p : PV) : by1 l u i p e = (l e).bind (by2 u i p) := rfl
theorem k_by2 (u : FO) (i : Int) (p : PV) (lo : Option Int) : by2 u i p lo e = (u e).bind (by3 p i lo) := rfl
theorem k_by3 (p : PV) (i : Int) (lo hi : Option Int) : by3 p i lo hi e = byO lo hi i e (res p e) := rfl
theorem k_byO (lo hi : Option Int) (i : Int) (xs : List D) : byO lo hi i e (some (.lst xs)) = .ok (.fresh (.lst (everyA xs lo hi i))) e := rfl
end
end DL

set_option Elab.async false
set_option linter.all false
set_option maxRecDepth 100000
set_option maxHeartbeats 1000000
/-! zip of a tuple and a list (or a list and a tuple), by the words of KE.GoesZip -/
namespace ZMix
open PySem PySem.Spec PyProof.Rows L2
/-- what is walked: a list (true) or a tuple -/
def SqK : Bool → PySem.W.Frag → Hp → Addr → List V → Prop
  | true => SqL
  | false => SqT
def HasK (k : Bool) (h : Heap) (a : Addr) (us : Array Value) : Prop := match k with
  | true => h.IsList a us
  | false => h.IsTuple a us
def AtK (k : Bool) (h : Heap) (it a : Addr) (i : Nat) : Prop := match k with
  | true => h.IsListIter it a i
  | false => h.IsTupleIter it a i
def begK (k : Bool) (a : Addr) : Obj := { cls := .type (bif k then "list_iterator" else "tuple_iterator"), data := .fields #[.ref a, .int 0 0] }
section
variable {X : Cx} {pins : List (Addr × Obj)} {σ : L2.St} {H : Hp} {s : Shared}
theorem has {k : Bool} {a : Addr} {xs : List V} (I : Inv X pins σ H s) (q : SqK k X.K H a xs) : ∃ us : List Value, Vals xs us ∧ HasK k s.heap a us.toArray := by
  cases k with
  | true => obtain ⟨us, r, p, _⟩ := I.list q; exact ⟨us, r, p.isList⟩
  | false => obtain ⟨us, r, p, _⟩ := I.tuple q; exact ⟨us, r, p⟩
theorem one {k : Bool} {a : Addr} {xs ys : List V} (I : Inv X pins σ H s) (q : SqK k X.K H a xs) (q' : SqK k X.K H a ys) : xs = ys := by
  cases k with
  | true => exact I.list_inj q q'
  | false => exact I.tuple_inj q q'
end
theorem HasK.lt {k : Bool} {h : Heap} {a : Addr} {us : Array Value} (x : HasK k h a us) : a < h.objs.size := by
  cases k <;> (obtain ⟨o, e, _⟩ := x; exact Heap.lt_size e)
theorem AtK.there {k : Bool} {h : Heap} {it a : Addr} {i : Nat} (x : AtK k h it a i) : ∃ o, h.get? it = some o ∧ ∀ v, o.data ≠ .cell v := by
  cases k <;> (obtain ⟨o, e, _, d⟩ := x; exact ⟨o, e, fun v z => by rw [d] at z; cases z⟩)
theorem AtK.keep {k : Bool} {h h' : Heap} {it a : Addr} {i : Nat} (x : AtK k h it a i) (e : ∀ o, h.get? it = some o → h'.get? it = some o) : AtK k h' it a i := by
  cases k <;> (obtain ⟨o, z, r⟩ := x; exact ⟨o, e _ z, r⟩)
theorem AtK.start {k : Bool} {h : Heap} {it a : Addr} (e : h.get? it = some (begK k a)) : AtK k h it a 0 := by
  cases k <;> exact ⟨_, e, rfl, rfl⟩
theorem begins {k : Bool} {a : Addr} {us : Array Value} : Begins (.ref a) (begK k a) fun h => HasK k h a us := by
  cases k with
  | true => exact begins_list a us
  | false => exact begins_tuple a us
theorem draws {k : Bool} {prog : Program} {w : World} {A : Around} (hd : A.handled = none) (it a : Addr) (ne : a ≠ it) (us : Array Value) :
    Draws prog w A it [it, a] us.size (fun i v => us[i]? = some v) (fun i h => AtK k h it a i ∧ HasK k h a us) := by
  cases k with
  | true => exact Draws.list hd it a ne us
  | false => exact Draws.tuple hd it a ne us
/-- pairs of what stands at a and at b -/
def pairs (K : PySem.W.Frag) (k l : Bool) (a b : Addr) : It where
  go i H := ∃ xs ys x y, SqK k K H a xs ∧ SqK l K H b ys ∧ xs[i]? = some x ∧ ys[i]? = some y
  yld i H v H' := ∃ T x y, v = .ref T ∧ H T = none ∧ H' = upd H T (.tup [x, y]) ∧ (∀ xs, SqK k K H a xs → xs[i]? = some x) ∧ ∀ ys, SqK l K H b ys → ys[i]? = some y
  stop i H := ∃ xs ys, SqK k K H a xs ∧ SqK l K H b ys ∧ (i = xs.length ∧ i ≤ ys.length ∨ i = ys.length ∧ i ≤ xs.length)
/-- the cells of the zip before turn i -/
def Mid (k l : Bool) (z TI TO m n a b : Addr) (i : Nat) (h : Heap) : Prop :=
  IsZip h z TI TO .none ∧ IsTupOf2 h TI (.ref m) (.ref n) ∧ (∃ x y, IsTupOf2 h TO x y) ∧ AtK k h m a i ∧ AtK l h n b i
theorem five {z TI TO m n : Addr} {P : Addr → Prop} (h1 : P z) (h2 : P TI) (h3 : P TO) (h4 : P m) (h5 : P n) : ∀ c ∈ [z, TI, TO, m, n], P c := by
  intro c hc
  simp only [List.mem_cons, List.not_mem_nil, or_false] at hc
  rcases hc with rfl | rfl | rfl | rfl | rfl <;> assumption
theorem turns {P : Program} {w : World} {K : PySem.W.Frag} {es : List Expr} {kk : Nat} {tp : Pos} {k l : Bool} {z TI TO m n a b : Addr} (S : ZipSep2 z TI TO m n [m, a] [n, b]) (am : a ≠ m) (bn : b ≠ n) :
    Turn P w K (.Tuple es kk tp) (pairs K k l a b) [z, TI, TO, m, n] z (Mid k l z TI TO m n a b) := by
  have mn : m ≠ n := fun e => S.sep1_2 (by rw [e]; exact List.mem_cons_self)
  constructor
  case mem => exact List.mem_cons_self
  case obj =>
    rintro i h ⟨hz, hI, ⟨x, y, hO⟩, h1, h2⟩
    exact five ⟨_, hz, fun _ e => nomatch e⟩ ⟨_, hI, fun _ e => nomatch e⟩ ⟨_, hO, fun _ e => nomatch e⟩ h1.there h2.there
  case keep =>
    rintro i h h' ⟨hz, hI, ⟨x, y, hO⟩, h1, h2⟩ up
    exact ⟨up z (by simp) _ hz, up TI (by simp) _ hI, ⟨x, y, up TO (by simp) _ hO⟩, h1.keep (up m (by simp)), h2.keep (up n (by simp))⟩
  case self =>
    rintro A i s Q E ⟨hz, _⟩ q
    exact wpAny_pyIter_zip hz q
  case item =>
    rintro X rfl rfl rfl cx i pins s σ H E I free ⟨hz, hI, ⟨x0, y0, hO⟩, h1, h2⟩ ⟨xs, ys, x, y, qx, qy, ex, ey⟩
    obtain ⟨us, rx, px⟩ := has I qx
    obtain ⟨ws, ry, py⟩ := has I qy
    obtain ⟨u, eu, ru⟩ := rx.get ex
    obtain ⟨v, ev, rv⟩ := ry.get ey
    have hd : X.A.in1.handled = none := I.ok.hd cx
    have lu : i < us.toArray.size := by rw [List.size_toArray]; exact (List.getElem?_eq_some_iff.mp eu).1
    have lv : i < ws.toArray.size := by rw [List.size_toArray]; exact (List.getElem?_eq_some_iff.mp ev).1
    apply wpAny_pyNext_zipD2_item S (draws hd m a am us.toArray) (draws hd n b bn ws.toArray) hz hI hO ⟨h1, px⟩ ⟨h2, py⟩ lu lv
    intro u' v' h' tk eu' ev' z1 O1 m1 n1 new _ up
    have e1 : u' = u := by simp only [List.getElem?_toArray] at eu'; rw [eu] at eu'; exact (Option.some.inj eu').symm
    have e2 : v' = v := by simp only [List.getElem?_toArray] at ev'; rw [ev] at ev'; exact (Option.some.inj ev').symm
    subst e1 e2
    refine ⟨_, rfl, ?_⟩
    apply wpAny_letOwnedTupleGo_zip (s := { s with heap := h', toks := tk }) z1
    intro h3 z3 sb
    have nz : s.heap.objs.size ≠ z := Nat.ne_of_gt (Heap.lt_size hz)
    have sb : ∀ c, c ≠ z → h3.get? c = h'.get? c := fun c e => sb.2 c e
    have tup : ObjOk X.prog X.w (upd H s.heap.objs.size (.tup [x, y])) h3 s.heap.objs.size (.tup [x, y]) := by
      refine ⟨?_, [u', v'], .cons ru (.cons rv .nil), ⟨_, (sb _ nz).trans new, rfl, _, rfl⟩⟩
      show 2 ≤ sizeLine
      decide
    have I3 : Inv X pins σ (upd H s.heap.objs.size (.tup [x, y])) { s with heap := h3, toks := tk } := by
      refine I.turnedNew (ch := [z, TI, TO, m, n]) (fun c o nc e => ?_) free (Nat.le_refl _) tup
      simp only [List.mem_cons, List.not_mem_nil, or_false, not_or] at nc
      exact (sb c nc.1).trans (up c o nc.1 nc.2.2.1 nc.2.2.2.1 nc.2.2.2.2 e)
    refine ⟨V.ref s.heap.objs.size, _, I3, show RelV (V.ref _) (Value.ref _) from rfl, ⟨_, x, y, rfl, I.hok.fresh (Nat.le_refl _), rfl, fun l' q' => one I q' qx ▸ ex, fun l' q' => one I q' qy ▸ ey⟩, ?_, ?_⟩
    · refine ⟨z3, (sb _ S.TIz).trans (up _ _ S.TIz S.TITO S.TIi1 S.TIi2 hI), ⟨u', v', (sb _ S.TOz).trans O1⟩, m1.1.keep fun o e => ?_, n1.1.keep fun o e => ?_⟩
      · exact (sb m S.zi1.symm).trans e
      · exact (sb n S.zi2.symm).trans e
    · have old : ∀ c o, s.heap.get? c = some o → H c = none → upd H s.heap.objs.size (.tup [x, y]) c = none := fun c o e f => by
        rw [upd_ne (Nat.ne_of_lt (Heap.lt_size e))]; exact f
      have g1 := h1.there
      have g2 := h2.there
      obtain ⟨o1, g1, _⟩ := g1
      obtain ⟨o2, g2, _⟩ := g2
      exact five (old _ _ hz (free _ (by simp)).1) (old _ _ hI (free _ (by simp)).1) (old _ _ hO (free _ (by simp)).1) (old _ _ g1 (free _ (by simp)).1) (old _ _ g2 (free _ (by simp)).1)
  case done =>
    rintro X rfl rfl rfl cx i pins s σ H E I free ⟨hz, hI, ⟨x0, y0, hO⟩, h1, h2⟩ ⟨xs, ys, qx, qy, stop⟩
    obtain ⟨us, rx, px⟩ := has I qx
    obtain ⟨ws, ry, py⟩ := has I qy
    have hd : X.A.in1.handled = none := I.ok.hd cx
    have n1 : us.toArray.size = xs.length := by rw [List.size_toArray, rx.length]
    have n2 : ws.toArray.size = ys.length := by rw [List.size_toArray, ry.length]
    apply wpAny_pyNext_zipD2_end S (draws hd m a am us.toArray) (draws hd n b bn ws.toArray) hz hI hO ⟨h1, px⟩ ⟨h2, py⟩ (by omega) (by omega) (by omega)
    intro h' tk up
    refine ⟨rfl, I.turnedL (t' := tk) (ch := [z, TI, TO, m, n]) (fun c o nc e => ?_) free⟩
    simp only [List.mem_cons, List.not_mem_nil, or_false, not_or] at nc
    exact up c o nc.1 nc.2.2.1 nc.2.2.2.1 nc.2.2.2.2 e
/-- zip(a, b), a and b of the kinds k and l -/
theorem pi_mix {X : Cx} {e e2 : Expr} {ta : TA} {p pos tp : Pos} {es : List Expr} {kk : Nat} (gz : Gl X "zip") (mz : X.mg "zip" = none) (ha : PA X [e, e2] ta)
    (no1 : starEach [e, e2] X.env = (false, eval e X.env) :: starEach [e2] X.env := by rfl) (no2 : (backTo pos (starEach [e2] X.env)).any (·.1) = false := by rfl) :
    PI X (.Tuple es kk tp) (.Call (.Name "zip" p) [e, e2] [] pos)
      (fun σ H R => ta σ H fun vs H1 => ∃ (a b : Addr) (k l : Bool) (xs ys : List V), vs = [.ref a, .ref b] ∧ SqK k X.K H1 a xs ∧ SqK l X.K H1 b ys ∧ R (pairs X.K k l a b) H1) := by
  constructor
  intro pins s σ H R I q
  refine Call_ (ld_blt I gz mz PyProof.Rows.boot_zip (PyProof.Rows.callWith_type1 (thn (ha.run pos pins s σ H _ I q) ?_) no1 no2))
  rintro us s1 ⟨vs, H1, I1, r1, a, b, k, l, xs, ys, rfl, qx, qy, q⟩
  obtain ⟨ua, px⟩ := has I1 qx
  obtain ⟨ub, py⟩ := has I1 qy
  cases r1 with
  | cons ra r1 =>
    cases r1 with
    | cons rb r1 =>
      cases r1
      cases ra
      cases rb
      apply zip_begins2 (begins (k := k) (us := ua.toArray)) (begins (k := l) (us := ub.toArray)) px.2 py.2
      intro h' z1 I0 O0 g1 g2 _ up
      apply wpAny_pyIter_zip z1
      have lt1 := px.2.lt
      have lt2 := py.2.lt
      have S : ZipSep2 (s1.heap.objs.size + 4) (s1.heap.objs.size + 2) (s1.heap.objs.size + 3) s1.heap.objs.size (s1.heap.objs.size + 1) [s1.heap.objs.size, a] [s1.heap.objs.size + 1, b] :=
        zip_sep2 (fun c hc => by rw [List.mem_singleton.mp hc]; exact lt1) (fun c hc => by rw [List.mem_singleton.mp hc]; exact lt2)
      have I2 : Inv X pins σ H1 { s1 with heap := h' } := I1.kept (t' := s1.toks) up
      have fr : ∀ j, FpOk X pins H1 (s1.heap.objs.size + j) := fun j => I1.fpOk (Nat.le_add_right _ _) (I1.hok.fresh (Nat.le_add_right _ _))
      exact ⟨_, _, _, _, H1, rfl, I2, turns S (Nat.ne_of_lt lt1) (Nat.ne_of_lt (Nat.lt_succ_of_lt lt2)), ⟨z1, I0, ⟨_, _, O0⟩, AtK.start g1, AtK.start g2⟩, five (fr 4) (fr 2) (fr 3) (fr 0) (fr 1), q⟩
end ZMix
namespace DL
open PySem PySem.Spec L2
section
variable {X : Cx} {fx : List (Nat × V)} {W : WX} {pos : Pos} {a b : Expr} {f g : F1} {e : DEnv}
theorem zipL_size : ∀ ds es : List D, (zipL ds es).length = min ds.length es.length
  | [], es => by cases es <;> simp [zipL]
  | d :: ds, [] => by simp [zipL]
  | d :: ds, e :: es => by simp [zipL, zipL_size ds es]
theorem it_mix {R : RC} {s : SS} {l m : Addr} {k1 k2 : Bool} {ds es : List D} {vs ws : List V} (a0 : Sa R fx s)
    (h1 : ∀ t : SS, St2 R fx s t → ZMix.SqK k1 R.K t.H l vs) (h2 : RepL R (hid s.A s.H) ds vs) (h3 : ∀ t : SS, St2 R fx s t → ZMix.SqK k2 R.K t.H m ws) (h4 : RepL R (hid s.A s.H) es ws) :
    ItOk R fx (ZMix.pairs R.K k1 k2 l m) (zipL ds es) s := by
  refine ⟨fun t i st => ?_⟩
  have q1 := h1 t st
  have q2 := RepL.le (st.nx.hid a0) _ _ h2
  have q3 := h3 t st
  have q4 := RepL.le (st.nx.hid a0) _ _ h4
  have n1 := RepL.length h2
  have n2 := RepL.length h4
  have zl : (zipL ds es).length = min ds.length es.length := zipL_size ds es
  refine ⟨fun hi => ⟨vs, ws, q1, q3, by omega⟩, fun d hd => ?_⟩
  obtain ⟨d1, d2, e1, e2, rfl⟩ := zipL_get hd
  obtain ⟨v, hv, hr⟩ := RepL.get q2 e1
  obtain ⟨w, hw, hr'⟩ := RepL.get q4 e2
  refine ⟨⟨vs, ws, v, w, q1, q3, hv, hw⟩, ?_⟩
  rintro x H' ⟨T, y, z, rfl, hT, rfl, hx, hy⟩
  have t1 := hx vs q1
  have t2 := hy ws q3
  rw [hv] at t1
  rw [hw] at t2
  cases t1
  cases t2
  exact pair_ok st.ab hT hr hr'
def zipTL : List D → Option (List D)
  | [.tup xs, .lst ys] => some (zipL xs ys)
  | _ => none
def fiZipTL (f g : F1) : FI := fun e => fiOf (eItems [f, g] e) zipTL
/-- zip(a, b), a a tuple, b a list -/
theorem di_zipTL {p tpos : Pos} {elts : List Expr} {kk : Nat} (hg : Gl X "zip") (hm : X.mg "zip" = none) (ha : DD X fx W [a, b] (eItems [f, g])) (hs : starEach [a, b] X.env = (false, eval a X.env) :: starEach [b] X.env := by rfl) (hpl : (backTo pos (starEach [b] X.env)).any (·.1) = false := by rfl) : DI X fx W (.Tuple elts kk tpos) (.Call (.Name "zip" p) [a, b] [] pos) (fiZipTL f g) := by
  refine PI.imp (ZMix.pi_mix hg hm ha hs hpl) fun σ H Q q => ?_
  obtain ⟨e, A, a0, q⟩ := q
  refine ⟨e, A, a0, (fiOf_post a0 q).mono fun vs H1 ⟨e1, A1, ds, xs, x1, r1, hk, h1⟩ => ?_⟩
  unfold zipTL at hk
  split at hk
  · cases hk
    obtain ⟨v, _, rfl, ⟨l, us, rfl, q1, q2⟩, w, _, rfl, ⟨m, ws, rfl, q3, q4⟩, h0⟩ := r1
    cases (show _ = _ from h0)
    exact ⟨l, m, false, true, us, ws, rfl, SqT.le hid_le q1, (LsR.le hid_le q3).sq,
      h1 _ (it_mix (R := rc X) (k1 := false) (k2 := true) x1.ab (fun t st => SqT.le hid_le (SqT.le (st.nx.hid x1.ab) q1)) q2 (fun t st => (LsR.le hid_le (LsR.le (st.nx.hid x1.ab) q3)).sq) q4)⟩
  · cases hk
theorem k_zipTL : fiZipTL f g e = fiOf (eItems [f, g] e) zipTL := rfl
theorem k_zipTL2 (xs ys : List D) : zipTL [.tup xs, .lst ys] = some (zipL xs ys) := rfl
end
end DL

set_option Elab.async false
set_option linter.all false
set_option maxRecDepth 100000
set_option maxHeartbeats 1000000
/-! f(a, ..), a a list just made, f a def that may change its first argument -/
namespace DL
open PySem PySem.Spec L2
def callFr (F : Fn) (p : PV) (ds : List D) (e : DEnv) : EO PV := match p with
  | .fresh d => match F (d :: ds) with
    | .ret r _ => .ok (.dat r) e
    | .own r _ => .ok (.fresh r) e
    | .ex x _ => .ex x e
    | .bot => .bot
  | _ => .bot
def eCallF (F : Fn) (f : F1) (fs : List F1) : F1 := fun e => (f e).bind fun p e1 => (eItems fs e1).bind fun ds e2 => callFr F p ds e2
section
variable {R : RC} {fx : List (Nat × V)} {s t : SS}
/-- behind the callee: only the fresh list has changed -/
theorem fresh_step {v : V} {d : D} {l : Addr} {A' : Addr → Prop} {H' : Hp} (x : St1 R fx s t) (n0 : s.H l = none) (al : t.A l) (nl : ¬ Own t.σ t.e l)
    (y : NxF (fun b => b = l) t.A t.H A' H') : St1 R fx s ⟨t.σ, t.e, A', H'⟩ := by
  have ne : ∀ b o, s.H b = some o → b ≠ l := fun b o e z => by rw [z, n0] at e; cases e
  have le : Le (hid t.A t.H) (hid A' H') := fun b o e => by
    obtain ⟨e1, e2⟩ := hid_some.mp e
    have nb : b ≠ l := fun z => e1 (z ▸ al)
    refine hid_some.mpr ⟨fun z => ?_, y.keep b o nb e2⟩
    rcases y.sub b z with z | z
    · exact e1 z
    · rw [z] at e2; cases e2
  refine ⟨x.eq, ⟨fun b o n e => y.keep b o (ne b o e) (x.nx.keep b o n e), fun b z => ?_, x.nx.own, fun b z n => y.sup b (x.nx.sup b z n), fun b o e => ?_⟩, x.kp, ⟨x.ab.len, x.ab.fix, fun i d q => ?_, fun i d q => ?_, x.ab.inj, y.dom⟩⟩
  · rcases y.sub b z with z | z
    · exact x.nx.sub b z
    · refine .inr ?_
      cases e : s.H b with
      | none => rfl
      | some o =>
        obtain ⟨o', e'⟩ := x.nx.there b o e
        rw [z] at e'
        cases e'
  · obtain ⟨o', e'⟩ := x.nx.there b o e
    exact y.there b o' e'
  · obtain ⟨w, q1, q2⟩ := x.ab.val i d q
    exact ⟨w, q1, Rep.le le _ _ q2⟩
  · obtain ⟨m, ho, q1, q2, q3, q4⟩ := x.ab.own i d q
    have nm : m ≠ l := fun z => nl ⟨i, d, q, by rw [← z]; exact q1⟩
    exact ⟨m, ho, q1, y.sup m q2, y.keep m ho nm q3, q4.le le⟩
end
section
variable {X : Cx} {fx : List (Nat × V)} {W : WX} {pos : Pos} {a : Expr} {f : F1}
theorem callFr_post {s t : SS} {v : V} {vs : List V} {p : PV} {ds : List D} {F : Fn} {Q : VK} (x : St1 (rc X) fx s t) (r : Sr (rc X) t v p) (fr : Fr s.H v p) (rs : RepL (rc X) (hid t.A t.H) ds vs)
    (h : EPost (RE (rc X) fx) W s Q (callFr F p ds t.e)) : spD (rc X) (some 0) (v :: vs).length F (v :: vs) t.H Q (WE W t.σ) := by
  cases p with
  | dat _ => exact h.elim
  | pk _ => exact h.elim
  | fresh d =>
    obtain ⟨l, ho, rfl, al, nl, hl, od⟩ := r
    have n0 : s.H l = none := fr l rfl
    have mad : ∀ b, MAddr (some 0) (V.ref l :: vs) b ↔ b = l := fun b => by
      constructor
      · rintro ⟨j, e1, e2⟩
        cases e1
        simp only [List.getElem?_cons_zero, Option.some.injEq, V.ref.injEq] at e2
        exact e2.symm
      · rintro rfl
        exact ⟨0, rfl, rfl⟩
    have lens := RepL.length rs
    have args : ArgsOk (rc X) (some 0) t.A t.H (V.ref l :: vs) (d :: ds) := by
      refine ⟨fun i d' q n => ?_, fun j d' q1 q2 => ?_, x.ab.dom, fun j q => ?_⟩
      · cases i with
        | zero => exact (n rfl).elim
        | succ i =>
          obtain ⟨w, q1, q2⟩ := RepL.get rs (show ds[i]? = some d' by simpa using q)
          exact ⟨w, by simpa using q1, q2⟩
      · cases q1
        simp only [List.getElem?_cons_zero, Option.some.injEq] at q2
        subst q2
        exact ⟨l, ho, rfl, al, hl, od⟩
      · cases q
        simp
    refine ⟨d :: ds, t.A, rfl, by simp [lens], args, ?_⟩
    have nx : ∀ {A' : Addr → Prop} {H' : Hp}, NxF (MAddr (some 0) (V.ref l :: vs)) t.A t.H A' H' → NxF (fun b => b = l) t.A t.H A' H' := fun {A' H'} y =>
      ⟨fun b o n e => y.keep b o (fun z => n ((mad b).mp z)) e, y.sub, y.sup, y.there, y.dom⟩
    unfold callFr at h
    dsimp only at h
    cases hF : F (d :: ds) with
    | bot => rw [hF] at h; exact h.elim
    | ret r o =>
      rw [hF] at h
      intro w A' H' y _ rw'
      exact h w ⟨t.σ, t.e, A', H'⟩ rfl (fresh_step (v := V.ref l) (d := d) x n0 al nl (nx y)) ⟨rw', trivial⟩
    | own r o =>
      rw [hF] at h
      intro m hob A' H' y _ am nm hm om
      have st := fresh_step (v := V.ref l) (d := d) x n0 al nl (nx y)
      refine h (.ref m) ⟨t.σ, t.e, A', H'⟩ rfl st ⟨⟨m, hob, rfl, am, fun z => ?_, hm, om⟩, fun l' e => ?_⟩
      · obtain ⟨i, d', z1, z2⟩ := (show Own t.σ t.e m from z)
        obtain ⟨l', ho2, q1, q2, q3, _⟩ := x.ab.own i d' z1
        rw [z2] at q1
        cases q1
        rw [nm] at q3
        cases q3
      · cases e
        cases e : s.H m with
        | none => rfl
        | some o =>
          obtain ⟨o', e'⟩ := x.nx.there m o e
          rw [nm] at e'
          cases e'
    | ex xx o =>
      rw [hF] at h
      intro cls dd A' H' y _ rx
      have st := fresh_step (v := V.ref l) (d := d) x n0 al nl (nx y)
      exact h cls dd ⟨t.σ, t.e, A', H'⟩ rfl st rx
theorem de_callF {x : Str} {p : Pos} {es : List Expr} {fs : List F1} {F : Fn} {k np : Nat} {fa : Addr} {fd : FuncData} {ps : List Str} (G : FnOk X.prog X.w X.K X.mg X.base (L2N.CX X.prog X.w) k fa fd ps (spD (rc X) (some 0) np F)) (hr : Room k X.A) (hg : Gl X x) (hm : X.mg x = some (.ref fa))
    (hk : PySem.W.keepIn X.K (.ref fa) = true) (hb : Binds X.K fd ps []) (tk : L2N.Takes X W) (ha : DE X fx W a f) (hs : DD X fx W es (eItems fs)) (hl : fs.length + 1 = np := by rfl) (hdb : (x == ("__debug__" : Str)) = false := by decide)
    (he : starEach (a :: es) X.env = (false, eval a X.env) :: starEach es X.env := by rfl) (hpl : (backTo pos (starEach es X.env)).any (·.1) = false := by rfl) : DE X fx W (.Call (.Name x p) (a :: es) [] pos) (eCallF F f fs) := by
  refine PE.imp (pe_callS G hr hg hm hk hb (L2N.passAt tk) (pa_cons ha hs he) hdb he hpl) fun σ H Q q => ?_
  obtain ⟨e, A, a0, q⟩ := q
  refine ⟨e, A, a0, (EPost.bnd a0 q).mono fun v H1 ⟨e1, A1, p, x1, r1, h1, h0⟩ => ?_⟩
  refine ⟨e1, A1, x1.ab, ?_⟩
  cases hI : eItems fs e1 with
  | bot => rw [hI] at h1; exact h1.elim
  | ex xx e2 => rw [hI] at h1; exact h1
  | ok ds e2 =>
    rw [hI] at h0
    intro vs t et x2 r2
    have x12 := St1.trans a0 x1 x2
    have lv : (v :: vs).length = np := by
      rw [List.length_cons, RepL.length (show RepL (rc X) (hid t.A t.H) ds vs from r2), eItems_len hI]
      exact hl
    have := callFr_post (vs := vs) (ds := ds) (F := F) (Q := Q) (W := W) x12 (Sr.step x1.ab x2 r1.1) r1.2 r2 (by rw [et]; exact h0)
    rw [lv] at this
    rw [show t.σ = σ from x12.eq] at this
    exact this
variable {e : DEnv}
-- reckoning
def cfI (F : Fn) (p : PV) (ds : List D) (e : DEnv) : EO PV := callFr F p ds e
def cfK (F : Fn) (fs : List F1) (p : PV) (e : DEnv) : EO PV := (eItems fs e).bind (cfI F p)
def cfO (e : DEnv) (o : FOut) : EO PV := match o with
  | .ret r _ => .ok (.dat r) e
  | .own r _ => .ok (.fresh r) e
  | .ex x _ => .ex x e
  | .bot => .bot
theorem k_callF (F : Fn) (fs : List F1) : eCallF F f fs e = (f e).bind (cfK F fs) := rfl
theorem k_cfK (F : Fn) (fs : List F1) (p : PV) : cfK F fs p e = (eItems fs e).bind (cfI F p) := rfl
theorem k_cfI (F : Fn) (d : D) (ds : List D) : cfI F (.fresh d) ds e = cfO e (F (d :: ds)) := rfl
theorem k_cfO_ret (r : D) (o : Option D) : cfO e (.ret r o) = .ok (.dat r) e := rfl
theorem k_cfO_own (r : D) (o : Option D) : cfO e (.own r o) = .ok (.fresh r) e := rfl
end
end DL

set_option Elab.async false
set_option linter.all false
set_option maxRecDepth 100000
set_option maxHeartbeats 1000000
/-! reckoning with a first argument that is changed -/
namespace DL
open PySem PySem.Spec L2
section
variable {e : DEnv} {f g : F1}
theorem k_callM (F : Fn) (fs : List F1) : eCall (some 0) F fs e = (eArgs fs e).bind (callR (some 0) F) := rfl
def cmO (i : Nat) (e : DEnv) (o : FOut) : EO PV := match o with
  | .ret r (some d) => .ok (.dat r) (e.set i (.own d))
  | .own r (some d) => .ok (.fresh r) (e.set i (.own d))
  | .ret r none => .ok (.dat r) e
  | .own r none => .ok (.fresh r) e
  | .ex x (some d) => .ex x (e.set i (.own d))
  | .ex x none => .ex x e
  | .bot => .bot
def cM (i : Nat) (F : Fn) (ds : List D) (e : DEnv) (c : Option Cell) : EO PV := match c with
  | some (.own d) => cmO i e (F (d :: ds))
  | _ => .bot
theorem callM_of (F : Fn) (i : Nat) (qs : List PV) (ds : List D) (h : resL qs e = some ds) (h2 : okA (some 0) (some i) 1 qs = true) (h3 : borS (some i) e qs = []) : callR (some 0) F (.pk i :: qs) e = cM i F ds e e[i]? := by
  unfold callR mSlot cM
  simp only [List.getElem?_cons_zero]
  cases hc : e[i]? with
  | none => rfl
  | some c =>
    cases c with
    | no => rfl
    | val d => rfl
    | own d =>
      have ok : okA (some 0) (some i) 0 (.pk i :: qs) = true := by
        unfold okA
        rw [h2]
        rfl
      have rs : resL (.pk i :: qs) e = some (d :: ds) := by
        rw [k_resL_cons, k_res_pk, hc, k_resC_own, k_resLO, h, k_consO]
      have bo : borS (some i) e (.pk i :: qs) = [] := by
        unfold borS
        rw [if_pos rfl, h3]
      simp only [ok, if_true, rs]
      unfold callF aft
      rw [bo]
      cases hF : F (d :: ds) with
      | ret r o => cases o <;> simp [cmO, putM, frzAll]
      | own r o => cases o <;> simp [cmO, putM, frzAll]
      | ex x o => cases o <;> simp [cmO, putM, frzAll]
      | bot => rfl
theorem k_callM1 (F : Fn) (i : Nat) : callR (some 0) F [.pk i] e = cM i F [] e e[i]? := callM_of F i [] [] rfl rfl rfl
theorem k_callM2 (F : Fn) (i : Nat) (a : D) : callR (some 0) F [.pk i, .dat a] e = cM i F [a] e e[i]? := callM_of F i _ _ rfl rfl rfl
theorem k_callM3 (F : Fn) (i : Nat) (a b : D) : callR (some 0) F [.pk i, .dat a, .dat b] e = cM i F [a, b] e e[i]? := callM_of F i _ _ rfl rfl rfl
theorem k_cM (i : Nat) (F : Fn) (ds : List D) (d : D) : cM i F ds e (some (.own d)) = cmO i e (F (d :: ds)) := rfl
theorem k_cmO_ret (i : Nat) (r d : D) : cmO i e (.ret r (some d)) = .ok (.dat r) (e.set i (.own d)) := rfl
theorem k_cmO_own (i : Nat) (r d : D) : cmO i e (.own r (some d)) = .ok (.fresh r) (e.set i (.own d)) := rfl
-- x[i] = e
def sxN (i : Nat) (d : D) (e : DEnv) (xs : List D) (o : Option Nat) : SO := match o with
  | some j => .nx (e.set i (.own (.lst (xs.set j d))))
  | none => .bot
def sxF (i : Nat) (d : D) (e : DEnv) (q : PV) (c : Option Cell) : SO := match q, c with
  | .dat (.int k), some (.own (.lst xs)) => sxN i d e xs (ixN xs.length k)
  | _, _ => .bot
def sx2 (i : Nat) (d : D) (q : PV) (e : DEnv) : SO := sxF i d e q e[i]?
def sxC (i : Nat) (fi : F1) (d : D) (e : DEnv) (c : Option Cell) : SO := match c with
  | some (.own (.lst _)) => (fi e).bindS (sx2 i d)
  | _ => .bot
def sxO (i : Nat) (fi : F1) (o : Option (D × DEnv)) : SO := match o with
  | some (d, e) => sxC i fi d e e[i]?
  | none => .bot
def sx1 (i : Nat) (fi : F1) (p : PV) (e : DEnv) : SO := sxO i fi (frz p e)
theorem k_sIx (i : Nat) (fi fv : F1) : sIx i fi fv e = (fv e).bindS (sx1 i fi) := by
  unfold sIx sx1 sxO sxC sx2 sxF sxN
  rfl
theorem k_sx1 (i : Nat) (fi : F1) (p : PV) : sx1 i fi p e = sxO i fi (frz p e) := rfl
theorem k_sxO (i : Nat) (fi : F1) (d : D) : sxO i fi (some (d, e)) = sxC i fi d e e[i]? := rfl
theorem k_sxC (i : Nat) (fi : F1) (d : D) (xs : List D) : sxC i fi d e (some (.own (.lst xs))) = (fi e).bindS (sx2 i d) := rfl
theorem k_sx2 (i : Nat) (d : D) (q : PV) : sx2 i d q e = sxF i d e q e[i]? := rfl
theorem k_sxF (i : Nat) (d : D) (k : Int) (xs : List D) : sxF i d e (.dat (.int k)) (some (.own (.lst xs))) = sxN i d e xs (ixN xs.length k) := rfl
theorem k_sxN (i j : Nat) (d : D) (xs : List D) : sxN i d e xs (some j) = .nx (e.set i (.own (.lst (xs.set j d)))) := rfl
theorem k_ixN20 : ixN 2 0 = some 0 := rfl
theorem k_ixN21 : ixN 2 1 = some 1 := rfl
-- the end of a def that changes its first argument
def fmD (d : D) (c : Option Cell) : FOut := match c with
  | some (.own s) => .ret d (some s)
  | _ => .bot
def fmF (d : D) (c : Option Cell) : FOut := match c with
  | some (.own s) => .own d (some s)
  | _ => .bot
def fmP (c0 : Option Cell) (c : Option Cell) : FOut := match c with
  | some (.own d) => fmF d c0
  | some (.val d) => fmD d c0
  | _ => .bot
theorem k_finM_dat (d : D) : finP (some 0) (.dat d) e = fmD d e[0]? := by
  unfold finP outOf fmD
  dsimp only
  cases e[0]? with
  | none => rfl
  | some c => cases c <;> rfl
theorem k_finM_fresh (d : D) : finP (some 0) (.fresh d) e = fmF d e[0]? := by
  unfold finP outOf fmF
  dsimp only
  cases e[0]? with
  | none => rfl
  | some c => cases c <;> rfl
theorem k_finM_pk (i : Nat) (h : i ≠ 0) : finP (some 0) (.pk i) e = fmP e[0]? e[i]? := by
  have h' : ¬ (some 0 = some i) := fun z => h (by cases z; rfl)
  unfold finP outOf fmP fmF fmD
  simp only [if_neg h']
  cases e[0]? with
  | none => cases e[i]? with
    | none => rfl
    | some c => cases c <;> rfl
  | some c0 => cases c0 <;> (cases e[i]? with
    | none => rfl
    | some c => cases c <;> rfl)
theorem k_fmD (d s : D) : fmD d (some (.own s)) = .ret d (some s) := rfl
theorem k_fmF (d s : D) : fmF d (some (.own s)) = .own d (some s) := rfl
theorem k_fmP_own (c0 : Option Cell) (d : D) : fmP c0 (some (.own d)) = fmF d c0 := rfl
theorem k_fmP_val (c0 : Option Cell) (d : D) : fmP c0 (some (.val d)) = fmD d c0 := rfl
theorem k_m01 : (some (0 : Nat) = some 1) = False := by simp
theorem k_m02 : (some (0 : Nat) = some 2) = False := by simp
theorem k_m03 : (some (0 : Nat) = some 3) = False := by simp
end
/-! a, b, .. = a list -/
section
variable {X : Cx} {fx : List (Nat × V)} {pos : Pos}
def tgLst (gs : FGs) : FG := fun d e => match d with
  | .lst ds => gs ds e
  | _ => none
theorem dg_lst {gs : FGs} {es : List Expr} {k n : Nat} {sl : List Nat} (hc : X.calm = true) (h : DGs X fx sl es gs) (hln : ∀ ds e e', gs ds e = some e' → ds.length = n) (hn : (assignEach es X.env).length = n := by rfl) (hst : (assignEach es X.env).findIdx? (·.1) = none := by rfl) : DG X fx sl (.Tuple es k pos) (tgLst gs) :=
  PG.imp (pg_lst hc h hn hst) fun v σ H Q q => by
    obtain ⟨e, A, d, e', a0, r, he, q⟩ := q
    cases d with
    | lst ds =>
      obtain ⟨p, vs, rfl, h1, h2⟩ := r
      have he : gs ds e = some e' := he
      exact ⟨p, vs, rfl, (LsR.le hid_le h1).sq, by rw [RepL.length h2]; exact hln _ _ _ he, e, A, _, e', a0, h2, he, q⟩
    | _ => cases he
theorem k_tgLst {e : DEnv} (gs : FGs) (ds : List D) : tgLst gs (.lst ds) e = gs ds e := rfl
end
theorem rng2_eq (i j : Int) (hi : i.natAbs < 2 ^ 62) (hj : j.natAbs < 2 ^ 62) : rng2 [.int i, .int j] = some (rngL i (j - i).toNat) := if_pos ⟨hi, hj⟩
end DL

set_option Elab.async false
set_option linter.all false
namespace DL
open PySem PySem.Spec L2
theorem k_ixN30 : ixN 3 0 = some 0 := rfl
theorem k_ixN31 : ixN 3 1 = some 1 := rfl
theorem k_ixN32 : ixN 3 2 = some 2 := rfl
theorem k_ixN40 : ixN 4 0 = some 0 := rfl
theorem k_ixN41 : ixN 4 1 = some 1 := rfl
theorem k_ixN42 : ixN 4 2 = some 2 := rfl
theorem k_ixN43 : ixN 4 3 = some 3 := rfl
end DL

set_option Elab.async false
set_option linter.all false
set_option maxRecDepth 100000
set_option maxHeartbeats 2000000
/-! try .. except: the caught exception is tracked like any other object, so it may be kept -/
namespace DL
open PySem PySem.Spec L2 PyProof.Rows
section
variable {X : Cx} {pins : List (Addr × Obj)} {σ : L2.St} {H : Hp} {s : Shared} {a : Addr} {oe : Obj} {fv : Array Value} {cls : Value} {d : Option Addr}
theorem held_ne (I : Inv X pins σ H s) (na : H a = none) {b : Addr} {o : HO} (h : H b = some o) : b ≠ a := fun z => by
  subst z
  exact nomatch na.symm.trans h
/-- an object made since the def began, not yet tracked, is tracked from now on -/
theorem held (I : Inv X pins σ H s) (new : X.s_0.heap.get? a = none) (np : ∀ p ∈ X.pn ++ pins, p.1 ≠ a) (ha : s.heap.get? a = some oe) (hd : oe.data = .fields fv) (z : L2N.Zn cls d oe) (na : H a = none) (nL : a ≠ X.env.locals) :
    Inv (X.suite a (X.pn ++ pins)) [] σ (upd H a (.ext (ExP cls d a))) s where
  ok := I.ok.suite _ _
  os := I.os
  bare := I.bare
  base := { I.base with
    free := fun b o h0 hn hx => by
      refine (upd_ne fun q => ?_).trans (I.base.free b o h0 hn hx)
      subst q
      exact nomatch new.symm.trans h0
    tups := fun b xs h0 => (upd_ne (held_ne I na (I.base.tups b xs h0))).trans (I.base.tups b xs h0)
    frzs := fun b o u h0 => (upd_ne (held_ne I na (I.base.frzs b o u h0))).trans (I.base.frzs b o u h0)
    tbls := fun b ps h0 => (I.base.tbls b ps h0).imp fun more q => (upd_ne (held_ne I na q)).trans q }
  loc := I.loc
  cell := I.cell
  free := (upd_ne (Ne.symm nL)).trans I.free
  freeC := fun x c q => (upd_ne fun e => by
    obtain ⟨v, o, h1, h2⟩ := I.cell x c q
    rw [e, ha] at h1
    obtain rfl := Option.some.inj h1
    exact nomatch hd.symm.trans h2).trans (I.freeC x c q)
  pin := fun p hp => by
    rw [List.append_nil] at hp
    obtain ⟨h1, h2, h3⟩ := I.pin p hp
    exact ⟨h1, (upd_ne (np p hp)).trans h2, h3⟩
  hok := fun b o e => by
    by_cases q : b = a
    · subst q
      rw [upd_same] at e
      obtain rfl := Option.some.inj e
      exact ⟨⟨oe, fv, ha, z, hd⟩, ⟨oe, ha⟩, fun _ _ ⟨o1, v1, g1, g2⟩ k => ⟨o1, v1, k o1 g1, g2⟩⟩
    · rw [upd_ne q] at e
      exact (I.hok b o e).stay (fun _ _ _ g => g) (fun c g => (upd_ne (held_ne I na g)).trans g) fun c xs g => (upd_ne (held_ne I na g)).trans g
  len := I.len
theorem unheld {pn' : List (Addr × Obj)} (I : Inv (X.suite a (X.pn ++ pins)) pn' σ H s) (ok : X.Ok) : Inv X pins σ H s :=
  { I with ok := ok, pin := fun p hp => I.pin p (List.mem_append_left _ hp) }
end

/-- a clause: its class, the slot of its name, what its suite does -/
structure Cla where
  c : Value
  n : Option Nat
  t : TS
def Cla.into (k : Cla) (a : Addr) (σ : L2.St) : L2.St := match k.n with
  | none => σ
  | some i => σ.set i (some (.ref a))
def Cla.outof (k : Cla) (D : Ends) : Ends := match k.n with
  | none => D
  | some i => { nx := fun σ H => D.nx (σ.set i none) H, rt := D.rt, bk := fun σ H => D.bk (σ.set i none) H, ct := fun σ H => D.ct (σ.set i none) H }
/-- what the clauses wish of an exception -/
def wishes (K : PySem.W.Frag) (W : WX) (D : Ends) : List Cla → WX
  | [] => W
  | k :: ks => fun cls d σ H => ∃ b, PySem.W.exmOne K cls k.c = some b ∧ if b = true then (match k.n with | none => k.t D σ H | some _ => ∀ a, H a = none → k.t (k.outof D) (k.into a σ) (upd H a (.ext (ExP cls d a)))) else wishes K W D ks cls d σ H
inductive Clauses (X : Cx) : List ExceptHandler → List Cla → Prop
  | nil : Clauses X [] []
  | bare {x : Str} {c : Value} {t : TS} {st : Stmt} {sts : List Stmt} {p q : Pos} {hs : List ExceptHandler} {ks : List Cla} (nm : Names X x c) (su : ∀ (a : Addr) (oe : Obj) (pn : List (Addr × Obj)), L2H.HotC (X.suite a ((a, oe) :: pn)) → PSs (X.suite a ((a, oe) :: pn)) (st :: sts) t) (r : Clauses X hs ks) :
      Clauses X (.ExceptHandler (some (.Name x p)) none (st :: sts) q :: hs) (⟨c, none, t⟩ :: ks)
  | as {x n : Str} {i : Nat} {c : Value} {t : TS} {st : Stmt} {sts : List Stmt} {p q : Pos} {hs : List ExceptHandler} {ks : List Cla} (nm : Names X x c) (hi : X.N[i]? = some n) (hl : X.env.kindOf n = some .local) (su : ∀ (a : Addr) (pn : List (Addr × Obj)), PSs (X.suite a pn) (st :: sts) t) (r : Clauses X hs ks) :
      Clauses X (.ExceptHandler (some (.Name x p)) (some n) (st :: sts) q :: hs) (⟨c, some i, t⟩ :: ks)
section
variable {X : Cx} {pins : List (Addr × Obj)} {σ : L2.St} {H : Hp} {cls : Value} {d : Option Addr} {a : Addr} {B : Heap} {sI s : Shared} {D : Ends} {W : WX}
/-- the landed exception, with all that is known of the state around it -/
structure Landed (X : Cx) (pins : List (Addr × Obj)) (σ : L2.St) (H : Hp) (cls : Value) (d : Option Addr) (a : Addr) (B : Heap) (sI s : Shared) : Prop where
  inv : Inv X pins σ H sI
  nb : ∀ b o, sI.heap.get? b = some o → b ∉ frs X.stack → B.get? b = some o
  up : sI.heap.UpToSlots s.heap
  fly : HandSPX.FlyingZ B X.stack a (L2N.Zn cls d) s.heap
  na : H a = none
  os : s.os = sI.os
  gens : AllBare s.gens
theorem Landed.move {h : Heap} (L : Landed X pins σ H cls d a B sI s) (fl : HandSPX.FlyingZ B X.stack a (L2N.Zn cls d) h) (up : s.heap.UpToSlots h) : Landed X pins σ H cls d a B sI { s with heap := h } :=
  ⟨L.inv, L.nb, L.up.trans up, fl, L.na, L.os, L.gens⟩
theorem Landed.noframe (L : Landed X pins σ H cls d a B sI s) : a ∉ frs X.stack := fun m => by
  obtain ⟨oe, fv, g, _, hd⟩ := L.fly.there
  obtain ⟨_, o, g', nf⟩ := L.fly.2.2.1.mem m
  obtain rfl := Option.some.inj (g.symm.trans g')
  exact nf _ hd
theorem Landed.new (L : Landed X pins σ H cls d a B sI s) : sI.heap.get? a = none := by
  cases e : sI.heap.get? a with
  | none => rfl
  | some o => exact nomatch L.fly.2.1.symm.trans (L.nb a o e L.noframe)
theorem Landed.now (L : Landed X pins σ H cls d a B sI s) : Inv X pins σ H s := L.inv.landed L.nb L.fly.1 L.up L.os L.gens
/-- the state in which the suite begins -/
theorem Landed.suite (L : Landed X pins σ H cls d a B sI s) (hs : X.stack = X.env :: X.outer) (hf : X.env.frame = some X.env.locals) (hx : X.ex = []) : Inv (X.suite a (X.pn ++ pins)) [] σ (upd H a (.ext (ExP cls d a))) s := by
  obtain ⟨oe, fv, g, z, hd⟩ := L.fly.there
  refine held L.now ?_ (fun p hp e => ?_) g hd z L.na fun e => L.noframe ?_
  · cases e : X.s_0.heap.get? a with
    | none => rfl
    | some o =>
      obtain ⟨o', e'⟩ := L.inv.base.there a o e (by rw [hx]; exact List.not_mem_nil)
      exact nomatch L.new.symm.trans e'
  · have h1 := (L.inv.pin p hp).1
    rw [e] at h1
    exact nomatch L.new.symm.trans h1
  · rw [hs]
    exact List.mem_filterMap.mpr ⟨X.env, List.mem_cons_self, by rw [hf, e]⟩
/-- the same with the exception pinned, not tracked -/
theorem Landed.suiteP (L : Landed X pins σ H cls d a B sI s) (hs : X.stack = X.env :: X.outer) (hf : X.env.frame = some X.env.locals) : ∃ oe, L2H.HotC (X.suite a ((a, oe) :: (X.pn ++ pins))) ∧ Inv (X.suite a ((a, oe) :: (X.pn ++ pins))) [] σ H s := by
  obtain ⟨oe, fv, g, z, hd⟩ := L.fly.there
  have nf := L.noframe
  rw [hs] at nf
  refine ⟨oe, ⟨(a, oe), ⟨rfl, fv, hd, z.2.2 fv hd⟩, List.mem_cons_self⟩, L.now.suite g hd L.na (fun e => nf (List.mem_filterMap.mpr ⟨X.env, List.mem_cons_self, by rw [hf, e]⟩)) fun hm => ?_⟩
  obtain ⟨e, he, q⟩ := List.mem_filterMap.mp hm
  exact nf (List.mem_filterMap.mpr ⟨e, List.mem_cons_of_mem _ he, q⟩)
theorem SP.unpinned (ok : X.Ok) {oe : Obj} {f : Flow} (h : SP (X.suite a ((a, oe) :: (X.pn ++ pins))) [] D f s) : SP X pins D f s := by
  cases f with
  | next => obtain ⟨σ1, H1, J, q⟩ := h; exact ⟨σ1, H1, J.unsuite ok, q⟩
  | brk => obtain ⟨σ1, H1, J, q⟩ := h; exact ⟨σ1, H1, J.unsuite ok, q⟩
  | cont => obtain ⟨σ1, H1, J, q⟩ := h; exact ⟨σ1, H1, J.unsuite ok, q⟩
  | ret u => obtain ⟨v, σ1, H1, J, r, q⟩ := h; exact ⟨v, σ1, H1, J.unsuite ok, r, q⟩
theorem SP.unheld (ok : X.Ok) {f : Flow} (h : SP (X.suite a (X.pn ++ pins)) [] D f s) : SP X pins D f s := by
  cases f with
  | next => obtain ⟨σ1, H1, J, q⟩ := h; exact ⟨σ1, H1, DL.unheld J ok, q⟩
  | brk => obtain ⟨σ1, H1, J, q⟩ := h; exact ⟨σ1, H1, DL.unheld J ok, q⟩
  | cont => obtain ⟨σ1, H1, J, q⟩ := h; exact ⟨σ1, H1, DL.unheld J ok, q⟩
  | ret u => obtain ⟨v, σ1, H1, J, r, q⟩ := h; exact ⟨v, σ1, H1, DL.unheld J ok, r, q⟩
theorem clause_test (L : Landed X pins σ H cls d a B sI s) (hs : X.stack = X.env :: X.outer) (hf : X.env.frame = some X.env.locals) (hx : X.ex = []) {x : Str} {c : Value} {p : Pos} {b : Bool} (nm : Names X x c) (hb : PySem.W.exmOne X.K cls c = some b)
    {R : Bool → Shared → Prop} {E E' : Value → Shared → Prop} (h : R b s) : wpAny (model X.prog X.w) (X.A.mark (some (.ref a))) (eval (.Name x p) X.env) (fun c s₁ => wpAny (model X.prog X.w) (X.A.mark (some (.ref a))) (excMatches (.ref a) c) R E s₁) E' s := by
  obtain ⟨o, fs, g, z, _⟩ := L.fly.there
  have ty : PySem.W.Looks (model X.prog X.w) s.heap (typeOf (.ref a)) cls := fun A Q E s k w => wpAny_typeOf_ref (k _ _ g) (by rw [z.1]; exact w)
  have yes := (PySem.W.exm_one (M := model X.prog X.w) L.now.kIn ty hb).here (E := E) (A := X.A.mark (some (.ref a))) h
  have I := L.suite hs hf hx
  obtain ⟨gl, nd, k | ⟨k1, k2, k3⟩⟩ := nm
  · exact ld_glob (X := X.suite a (X.pn ++ pins)) I gl k yes nd
  · exact ld_blt (X := X.suite a (X.pn ++ pins)) I gl k1 k2 yes k3 nd
theorem clauses_run (hs : X.stack = X.env :: X.outer) (hf : X.env.frame = some X.env.locals) (hx : X.ex = []) (hN : X.N.Nodup) (tk : L2N.Takes X W) : ∀ {hds : List ExceptHandler} {ks : List Cla}, Clauses X hds ks → Landed X pins σ H cls d a B sI s → wishes X.K W D ks cls d σ H →
    wpAny (model X.prog X.w) X.A (handleBy (.ref a) X.env hds) (SP X pins D) X.xe s := by
  intro hds ks cs
  induction cs with
  | nil =>
    intro L q
    refine wpAny_handleBy_nil ?_
    have away : wpAny (model X.prog X.w) X.A (setFlight (.ref a) X.env.frame) (fun _ t => wpAny (model X.prog X.w) X.A (throw (.ref a) : Sem Flow) (SP X pins D) X.xe t) X.xe s := by
      have fl := L.fly
      rw [hs] at fl
      rw [hf]
      exact HandSPX.setFlight_upZ fl fun h1 held1 up1 => wpAny_throw (tk _ _ ⟨a, B, sI, pins, σ, H, cls, d, rfl, L.inv, L.nb, L.up.trans up1, .inr (.inr (hs ▸ held1)), L.na, L.os, L.gens, q⟩)
    obtain ⟨_, _, _, o, fs, T, _, _, g, _, e, f1, _⟩ := id L.fly
    unfold PySem.passOn
    refine wpAny_bind (wpAny_field g e f1 ?_)
    have tn : ¬ ((Value.ref T == Value.none) = true) := by simp
    rw [if_neg tn]
    first
      | exact wpAny_bind away
      | exact wpAny_bind (wpAny_pure (wpAny_bind away))
  | @bare x c t st sts p q' hs' ks' nm su r ih =>
    intro L ⟨b, hb, q⟩
    refine wpAny_handleBy_cons (codeAny_handlers_test (clause_test L hs hf hx nm hb ?_)) (by intro z; cases z)
    cases b with
    | false => exact ih L q
    | true =>
      refine codeAny_handlers_suite ?_
      have fl := L.fly
      rw [hs] at fl
      refine HandSPX.lands_againZ fl fun h1 fl1 up1 => ?_
      obtain ⟨oe, hot, S⟩ := (L.move (hs ▸ fl1) up1).suiteP hs hf
      exact wpAny_mono ((su a oe (X.pn ++ pins) hot).run [] _ _ _ D S q) (fun f s1 z => SP.unpinned L.inv.ok z) fun _ _ z => z.elim
  | @as x n i c t st sts p q' hs' ks' nm hi hl su r ih =>
    intro L ⟨b, hb, q⟩
    refine wpAny_handleBy_cons (codeAny_handlers_test (clause_test L hs hf hx nm hb ?_)) (by intro z; cases z)
    cases b with
    | false => exact ih L q
    | true =>
      refine codeAny_handlers_suite_as ?_
      have fl := L.fly
      rw [hs] at fl
      refine HandSPX.lands_againZ fl fun h1 fl1 up1 => ?_
      have I1 := (L.move (hs ▸ fl1) up1).suite hs hf hx
      refine store_ok (X := X.suite a (X.pn ++ pins)) (v := .ref a) I1 hN hi (.inl hl) rfl (fun s2 I2 => ?_) (.inr hl)
      refine wpAny_mono ((su a (X.pn ++ pins)).run [] s2 _ _ _ I2 (q a L.na)) (fun f s3 z => ?_) fun _ _ z => z.elim
      cases f with
      | next => obtain ⟨σ1, H1, J, w⟩ := z; exact gone_ok (unheld J L.inv.ok) hN hi hl fun s4 J4 => ⟨_, H1, J4, w⟩
      | brk => obtain ⟨σ1, H1, J, w⟩ := z; exact gone_ok (unheld J L.inv.ok) hN hi hl fun s4 J4 => ⟨_, H1, J4, w⟩
      | cont => obtain ⟨σ1, H1, J, w⟩ := z; exact gone_ok (unheld J L.inv.ok) hN hi hl fun s4 J4 => ⟨_, H1, J4, w⟩
      | ret u => obtain ⟨v, σ1, H1, J, rv, w⟩ := z; exact gone_ok (unheld J L.inv.ok) hN hi hl fun s4 J4 => ⟨v, _, H1, J4, rv, w⟩
/-- try: .. except C1 [as n]: .. except C2 ..: the exceptions of the body that no clause takes go on -/
theorem ps_tries {body : List Stmt} {h0 : ExceptHandler} {hds : List ExceptHandler} {ks : List Cla} {pos : Pos} {tb : WX → TS} (hs : X.stack = X.env :: X.outer) (hf : X.env.frame = some X.env.locals) (hx : X.ex = []) (hN : X.N.Nodup) (tk : L2N.Takes X W)
    (hb : ∀ (W1 : WX) (pn : List (Addr × Obj)) (xe : Value → Shared → Prop), L2N.Takes (X.tr pn xe) W1 → PassesOwn (model X.prog X.w) X.A X.env xe → PSs (X.tr pn xe) body (tb W1)) (cs : Clauses X (h0 :: hds) ks) :
    PS X (.Try body (h0 :: hds) [] [] pos) fun D σ H => tb (wishes X.K W D ks) D σ H := by
  constructor
  intro pins s σ H D I h
  have ok := I.ok
  -- where an exception of the body goes
  let back : Value → Shared → Prop := fun e s1 => wpAny (model X.prog X.w) X.A (noteFrame e X.env) (fun _ s2 => wpAny (model X.prog X.w) X.A (setFlight e none) (fun _ s3 => wpAny (model X.prog X.w) X.A (handleBy e X.env (h0 :: hds)) (SP X pins D) X.xe s3) X.xe s2) X.xe s1
  have caught : L2N.Takes (X.tr (X.pn ++ pins) back) (wishes X.K W D ks) := by
    rintro u s1 ⟨a, B, sI, pins1, σ1, H1, cls, d, rfl, J, nb, up, sky, na, os, gens, w⟩
    have fr : X.A.frames = some (X.env :: X.outer) := ok.frames.trans (congrArg some hs)
    refine L2N.Sky.land (B := B) (outer := X.outer) L2N.Zn.steady fr hf (by rw [← hs]; exact sky) fun h1 fl up1 => ?_
    exact clauses_run hs hf hx hN tk cs ⟨J.ofTry ok, nb, up.trans up1, hs ▸ fl, na, os, gens⟩ w
  refine wpAny_Try_except (wpAny_mono ((hb _ _ back caught PassesOwn.looking).run [] s σ H D (I.toTry _) h) (fun f s1 z => ?_) fun _ _ z => z)
  cases f with
  | next => obtain ⟨σ1, H1, J, w⟩ := z; exact wpAny_execs_nil ⟨σ1, H1, J.ofTry ok, w⟩
  | brk => obtain ⟨σ1, H1, J, w⟩ := z; exact ⟨σ1, H1, J.ofTry ok, w⟩
  | cont => obtain ⟨σ1, H1, J, w⟩ := z; exact ⟨σ1, H1, J.ofTry ok, w⟩
  | ret u => obtain ⟨v, σ1, H1, J, rv, w⟩ := z; exact ⟨v, σ1, H1, J.ofTry ok, rv, w⟩
end
end DL

set_option Elab.async false
set_option linter.all false
set_option maxRecDepth 100000
set_option maxHeartbeats 1000000
/-! try, raise as data -/
namespace DL
open PySem PySem.Spec L2 PyProof.Rows
/-! ### a slot is emptied -/
section
variable {R : RC} {fx : List (Nat × V)} {s : SS}
theorem set_no {i : Nat} (a : Sa R fx s) (hf : fx.all (fun p => p.1 != i) = true) : St2 R fx s ⟨s.σ.set i none, s.e.set i .no, s.A, s.H⟩ := by
  have up : ∀ {j : Nat} {c : Cell}, c ≠ .no → (s.e.set i .no)[j]? = some c → i ≠ j ∧ s.e[j]? = some c := fun {j c} n h => by
    rcases set_get h with ⟨_, _, z⟩ | ⟨z, h⟩
    · exact (n z).elim
    · exact ⟨Ne.symm z, h⟩
  have get : ∀ {j : Nat} {o : Option V}, i ≠ j → (s.σ.set i none)[j]? = some o → s.σ[j]? = some o := fun {j o} n h => by rwa [List.getElem?_set_ne n] at h
  have put : ∀ {j : Nat} {o : Option V}, i ≠ j → s.σ[j]? = some o → (s.σ.set i none)[j]? = some o := fun {j o} n h => by rwa [List.getElem?_set_ne n]
  have own : ∀ b, Own (s.σ.set i none) (s.e.set i .no) b → Own s.σ s.e b := fun b ⟨j, d, h1, h2⟩ => by
    obtain ⟨n, h⟩ := up (c := .own d) (by intro z; cases z) h1
    exact ⟨j, d, h, get n h2⟩
  constructor
  · exact ⟨fun _ _ _ h => h, fun _ h => .inl h, fun b h => .inl (own b h), fun _ h _ => h, fun _ o h => ⟨o, h⟩⟩
  constructor
  · show (s.σ.set i none).length = (s.e.set i .no).length
    rw [List.length_set, List.length_set]
    exact a.len
  · intro p hp
    have n : p.1 ≠ i := by simpa using List.all_eq_true.mp hf p hp
    exact put (Ne.symm n) (a.fix p hp)
  · intro j d h
    obtain ⟨n, h⟩ := up (c := .val d) (by intro z; cases z) h
    exact (a.val j d h).imp fun v z => ⟨put n z.1, z.2⟩
  · intro j d h
    obtain ⟨n, h⟩ := up (c := .own d) (by intro z; cases z) h
    obtain ⟨l, ho, z, w⟩ := a.own j d h
    exact ⟨l, ho, put n z, w⟩
  · intro j k d d' l h1 h2 h3 h4
    obtain ⟨n1, h1⟩ := up (c := .own d) (by intro z; cases z) h1
    obtain ⟨n2, h2⟩ := up (c := .own d') (by intro z; cases z) h2
    exact a.inj j k d d' l h1 h2 (get n1 h3) (get n2 h4)
  · exact a.dom
end
/-! ### try -/
/-- a clause: which classes it takes, the slot of its name, its suite -/
structure Hd where
  tbl : List (Str × Bool)
  n : Option Nat
  F : FS
def exnD (x : Exn) : D := .exn x.c x.a.toList
def hdIn (n : Option Nat) (x : Exn) (e : DEnv) : DEnv := match n with
  | none => e
  | some i => e.set i (.val (exnD x))
def hdFree (n : Option Nat) (e : DEnv) : DEnv := match n with
  | none => e
  | some i => e.set i .no
def hdOut (n : Option Nat) (o : SO) : SO := match o with
  | .nx e => .nx (hdFree n e)
  | .bk e => .bk (hdFree n e)
  | .ct e => .ct (hdFree n e)
  | .rt p e => .rt p e
  | .ex _ _ => .bot
  | .bot => .bot
def tryH : List Hd → Exn → DEnv → SO
  | [], x, e => .ex x e
  | h :: hs, x, e => match h.tbl.lookup x.c with
    | some true => hdOut h.n (h.F (hdIn h.n x e))
    | some false => tryH hs x e
    | none => .bot
def sTry (F : FS) (hs : List Hd) : FS := fun e => match F e with
  | .ex x e1 => tryH hs x e1
  | o => o
abbrev W0 : WX := fun _ _ _ _ => False
/-- what an except clause's class says of the classes in the table -/
def TbOk (K : PySem.W.Frag) (mg : Str → Option Value) (t : List (Str × Bool)) (c : Value) : Prop := ∀ n b C, t.lookup n = some b → mg n = some (.ref C) → PySem.W.exmOne K (.ref C) c = some b
/-- the clauses and what they do -/
inductive DHs (X : Cx) (fx : List (Nat × V)) : List ExceptHandler → List Hd → Prop
  | nil : DHs X fx [] []
  | bare {x : Str} {c : Value} {tbl : List (Str × Bool)} {F : FS} {st : Stmt} {sts : List Stmt} {p q : Pos} {hs : List ExceptHandler} {ks : List Hd} (nm : Names X x c) (tb : TbOk X.K X.mg tbl c)
      (su : ∀ (a : Addr) (oe : Obj) (pn : List (Addr × Obj)), L2H.HotC (X.suite a ((a, oe) :: pn)) → DSs (X.suite a ((a, oe) :: pn)) fx W0 (st :: sts) F) (r : DHs X fx hs ks) : DHs X fx (.ExceptHandler (some (.Name x p)) none (st :: sts) q :: hs) (⟨tbl, none, F⟩ :: ks)
  | as {x n : Str} {i : Nat} {c : Value} {tbl : List (Str × Bool)} {F : FS} {st : Stmt} {sts : List Stmt} {p q : Pos} {hs : List ExceptHandler} {ks : List Hd} (nm : Names X x c) (tb : TbOk X.K X.mg tbl c)
      (hi : X.N[i]? = some n) (hl : X.env.kindOf n = some .local) (hf : fx.all (fun p => p.1 != i) = true) (su : ∀ (a : Addr) (pn : List (Addr × Obj)), DSs (X.suite a pn) fx W0 (st :: sts) F) (r : DHs X fx hs ks) :
      DHs X fx (.ExceptHandler (some (.Name x p)) (some n) (st :: sts) q :: hs) (⟨tbl, some i, F⟩ :: ks)
section
variable {X : Cx} {fx : List (Nat × V)} {W : WX} {D : Ends}
theorem exn_rep {R : RC} {s : SS} {x : Exn} {cls : Value} {dd : Option Addr} {a : Addr} (r : ExR R s x cls dd) (n : s.H a = none) (na : ¬ s.A a) : Rep R (hid s.A (upd s.H a (.ext (ExP cls dd a)))) (exnD x) (.ref a) := by
  obtain ⟨C, h1, rfl, h2⟩ := r
  have le : Le (hid s.A s.H) (hid s.A (upd s.H a (.ext (ExP (.ref C) dd a)))) := lay_hid n
  have at_ : hid s.A (upd s.H a (.ext (ExP (.ref C) dd a))) a = some (.ext (ExP (.ref C) dd a)) := hid_some.mpr ⟨na, upd_same⟩
  cases hx : x.a with
  | none =>
    rw [hx] at h2
    simp only [exnD, hx, Option.toList]
    exact ⟨a, C, dd, [], rfl, h1, at_, .inl ⟨rfl, h2⟩, rfl⟩
  | some d =>
    rw [hx] at h2
    obtain ⟨dx, v, e1, e2, e3⟩ := h2
    simp only [exnD, hx, Option.toList]
    exact ⟨a, C, dd, [v], rfl, h1, at_, .inr ⟨dx, v, rfl, e1, le _ _ e2⟩, .one (Rep.le le d v e3)⟩
/-- the state in which a suite begins -/
theorem hd_in {s t : SS} {x : Exn} {cls : Value} {dd : Option Addr} {a : Addr} {n : Option Nat} (a0 : Sa (rc X) fx s) (y : St2 (rc X) fx s t) (r : ExR (rc X) t x cls dd) (na : t.H a = none) (hf : ∀ i, n = some i → fx.all (fun p => p.1 != i) = true) (k : Cla) (hk : k.n = n) :
    St2 (rc X) fx s ⟨k.into a t.σ, hdIn n x t.e, t.A, upd t.H a (.ext (ExP cls dd a))⟩ := by
  have l : St1 (rc X) fx t (t.lay a (.ext (ExP cls dd a))) := .lay y.ab na
  have y2 := y.trans a0 l.st2
  subst hk
  unfold Cla.into hdIn
  cases h : k.n with
  | none => exact y2
  | some i => exact y2.trans a0 (set_val l.ab (hf i h) (exn_rep r na (Sa.ne y.ab na)))
theorem hd_out {s u : SS} {n : Option Nat} {o : SO} (k : Cla) (hk : k.n = n) (hf : ∀ i, n = some i → fx.all (fun p => p.1 != i) = true) (a0 : Sa (rc X) fx s) (y : St2 (rc X) fx s u) (h : SPost (rc X) fx W D s (hdOut n o)) : SPost (rc X) fx W0 (k.outof D) u o := by
  subst hk
  unfold Cla.outof
  cases hn : k.n with
  | none =>
    rw [hn] at h
    cases o with
    | nx e => exact SPost.later a0 y h
    | bk e => exact SPost.later a0 y h
    | ct e => exact SPost.later a0 y h
    | rt p e => exact SPost.later a0 y h
    | ex x e => exact h.elim
    | bot => exact h.elim
  | some i =>
    rw [hn] at h
    have g : ∀ t : SS, St2 (rc X) fx u t → St2 (rc X) fx s ⟨t.σ.set i none, t.e.set i .no, t.A, t.H⟩ := fun t z => (y.trans a0 z).trans a0 (set_no z.ab (hf i hn))
    cases o with
    | nx e => exact fun t et z => h _ (by rw [et]; rfl) (g t z)
    | bk e => exact fun t et z => h _ (by rw [et]; rfl) (g t z)
    | ct e => exact fun t et z => h _ (by rw [et]; rfl) (g t z)
    | rt p e => exact SPost.later a0 y h
    | ex x e => exact h.elim
    | bot => exact h.elim
/-- the clauses as the rule for the heap wants them -/
theorem hds_cla : ∀ {hs : List ExceptHandler} {ks : List Hd}, DHs X fx hs ks → ∃ cs, Clauses X hs cs ∧ ∀ (s t : SS) (x : Exn) (cls : Value) (dd : Option Addr), Sa (rc X) fx s → St2 (rc X) fx s t → ExR (rc X) t x cls dd → SPost (rc X) fx W D s (tryH ks x t.e) → wishes X.K W D cs cls dd t.σ t.H := by
  intro hs ks h
  induction h with
  | nil => exact ⟨[], .nil, fun s t x cls dd a0 y r h => h cls dd t rfl y r⟩
  | @bare x c tbl F st sts p q hs ks nm tb su r ih =>
    obtain ⟨cs, c1, c2⟩ := ih
    refine ⟨⟨c, none, rdS (rc X) fx W0 F⟩ :: cs, .bare nm su c1, fun s t x cls dd a0 y r h => ?_⟩
    unfold tryH at h
    dsimp only at h
    obtain ⟨C, m1, rfl, m2⟩ := id r
    cases hl : tbl.lookup x.c with
    | none => rw [hl] at h; exact h.elim
    | some b =>
      rw [hl] at h
      refine ⟨b, tb _ _ _ hl m1, ?_⟩
      cases b with
      | false => exact c2 s t x _ dd a0 y r h
      | true =>
        exact ⟨_, _, y.ab, hd_out (n := none) ⟨c, none, rdS (rc X) fx W0 F⟩ rfl (fun _ e => nomatch e) a0 y h⟩
  | @as x n i c tbl F st sts p q hs ks nm tb hi hl hf su r ih =>
    obtain ⟨cs, c1, c2⟩ := ih
    refine ⟨⟨c, some i, rdS (rc X) fx W0 F⟩ :: cs, .as nm hi hl su c1, fun s t x cls dd a0 y r h => ?_⟩
    have hf' : ∀ j, some i = some j → fx.all (fun p => p.1 != j) = true := fun j e => by cases e; exact hf
    unfold tryH at h
    dsimp only at h
    obtain ⟨C, m1, rfl, m2⟩ := id r
    cases hl : tbl.lookup x.c with
    | none => rw [hl] at h; exact h.elim
    | some b =>
      rw [hl] at h
      refine ⟨b, tb _ _ _ hl m1, ?_⟩
      cases b with
      | false => exact c2 s t x _ dd a0 y r h
      | true =>
        intro a na
        have z := hd_in (n := some i) a0 y r na hf' ⟨c, some i, rdS (rc X) fx W0 F⟩ rfl
        exact ⟨_, _, z.ab, hd_out (n := some i) ⟨c, some i, rdS (rc X) fx W0 F⟩ rfl hf' a0 z h⟩
end
theorem ds_try {X : Cx} {fx : List (Nat × V)} {W : WX} {body : List Stmt} {h0 : ExceptHandler} {hds : List ExceptHandler} {pos : Pos} {F : FS} {ks : List Hd} (hs : X.stack = X.env :: X.outer) (hf : X.env.frame = some X.env.locals) (hx : X.ex = []) (hN : X.N.Nodup) (tk : L2N.Takes X W)
    (hb : ∀ (W1 : WX) (pn : List (Addr × Obj)) (xe : Value → Shared → Prop), L2N.Takes (X.tr pn xe) W1 → PassesOwn (model X.prog X.w) X.A X.env xe → DSs (X.tr pn xe) fx W1 body F) (dh : DHs X fx (h0 :: hds) ks) :
    DS X fx W (.Try body (h0 :: hds) [] [] pos) (sTry F ks) := by
  constructor
  intro pins s σ H D I q
  obtain ⟨cs, c1, c2⟩ := hds_cla (W := W) (D := D) dh
  refine (ps_tries (tb := fun W1 => rdS (rc X) fx W1 F) hs hf hx hN tk (fun W1 pn xe t p => hb W1 pn xe t p) c1).run pins s σ H D I ?_
  obtain ⟨e, A, a0, q⟩ := q
  refine ⟨e, A, a0, ?_⟩
  unfold sTry at q
  cases ho : F e with
  | nx e1 => rw [ho] at q; exact q
  | bk e1 => rw [ho] at q; exact q
  | ct e1 => rw [ho] at q; exact q
  | rt p e1 => rw [ho] at q; exact q
  | bot => rw [ho] at q; exact q
  | ex x e1 =>
    rw [ho] at q
    intro cls dd t et y r
    subst et
    exact c2 _ t x cls dd a0 y r q
end DL

set_option Elab.async false
set_option linter.all false
set_option maxRecDepth 100000
set_option maxHeartbeats 1000000
/-! raise, what is asked of an exception, as data -/
namespace DL
open PySem PySem.Spec L2 PyProof.Rows
abbrev veMro : List Value := [.type "ValueError", .type "Exception", .type "BaseException", .type "object"]
/-- what the module's text says of an exception class without a maker of its own -/
structure XMk (K : PySem.W.Frag) (C : Addr) : Prop where
  x : PySem.W.excIn K C veMro "ValueError.__new__" = true
  k : PySem.W.keepIn K (.ref C) = true
  b : PySem.W.subIn K (.ref C) (.type "BaseException") = some true
  t : PySem.W.typeIn K (.ref C) = some (.type "type")
/-- .. what isinstance asks of its exceptions -/
structure XIs (K : PySem.W.Frag) (C : Addr) : Prop where
  ga : PySem.W.findIn K (.ref C) "__getattribute__" = some (some (.builtin "BaseException.__getattribute__"))
  gg : PySem.W.findIn K (.ref C) "__getattr__" = some none
  b : PySem.W.subIn K (.ref C) (.type "BaseException") = some true
  c : PySem.W.isClsIn K C = true
  d : PySem.W.hasDictIn K C = true
  cl : PySem.W.findIn K (.ref C) "__class__" = some (some (.builtin "object.__class__"))
  o : PySem.W.mroIn K C (.type "object") = some true
  n : PySem.W.specialIn K (.builtin "object.__class__") "__get__" = some (some (.builtin "getset_descriptor.__get__"))
  s : PySem.W.takesIn K (.builtin "object.__class__") = some true
section
variable {X : Cx} {fx : List (Nat × V)} {W : WX} {pos : Pos} {a b : Expr} {f g : F1}
def sRaise (x : Str) : FS := fun e => .ex ⟨x, none⟩ e
theorem ds_raise {x m : Str} {j : Nat} {p p2 pos' : Pos} {C : Addr} (hc : X.calm = true) (tk : L2N.Takes X W) (M : XMk X.K C) (gC : X.mg x = some (.ref C)) (hg : Gl X x) (hdb : (x == ("__debug__" : Str)) = false := by decide) :
    DS X fx W (.Raise (some (.Call (.Name x p) [.Constant (.str m) j p2] [] pos)) none pos') (sRaise x) :=
  PS.imp (L2N.ps_raise hc tk (L2N.pmk_own F.excBase_ValueError M.x gC M.k (raises_own M.b M.t) hg hdb)) fun D σ H q => by
    obtain ⟨e, A, a0, q⟩ := q
    exact q _ none ⟨σ, e, A, H⟩ rfl (.refl a0) ⟨C, gC, rfl, rfl⟩
/-! ### isinstance -/
/-- the answer of isinstance for one class: by the exception's class, by the built-in type of other data -/
structure IsT where
  ex : List (Str × Bool)
  ty : List (String × Bool)
def isT (q : IsT) : D → Option Bool
  | .exn c _ => q.ex.lookup c
  | .ins _ _ _ => none
  | d => match tyN d with
    | some t => q.ty.lookup t
    | none => none
/-- the table is right for the class c -/
structure IsOk (K : PySem.W.Frag) (mg : Str → Option Value) (q : IsT) (c : Value) : Prop where
  ex : ∀ n b C, q.ex.lookup n = some b → mg n = some (.ref C) → PySem.W.kitOne K (.ref C) c = some b ∧ XIs K C
  ty : ∀ t b, q.ty.lookup t = some b → PySem.W.kitOne K (.type t) c = some b
theorem isOk_cls {X : Cx} {σ : L2.St} {e : DEnv} {A : Addr → Prop} {H : Hp} {q : IsT} {c : Value} {d : D} {v : V} {b : Bool} (ok : IsOk X.K X.mg q c) (r : RepV (rc X) ⟨σ, e, A, H⟩ d v) (h : isT q d = some b) :
    (∃ t, TyX X.K H v t ∧ PySem.W.kitOne X.K t c = some b) ∨ ∃ (a C : Addr) (dd : Option Addr), v = .ref a ∧ H a = some (.ext (ExP (.ref C) dd a)) ∧ (dd = none ∨ ∃ dx fs, dd = some dx ∧ H dx = some (.xd fs)) ∧ XIs X.K C ∧ PySem.W.kitOne X.K (.ref C) c = some b := by
  cases d with
  | exn n xs =>
    obtain ⟨a, C, dd, vs, rfl, m, ha, hx, _⟩ := (show Rep (rc X) (hid A H) (.exn n xs) v from r)
    obtain ⟨h1, h2⟩ := ok.ex n b C h m
    refine .inr ⟨a, C, dd, rfl, hid_le _ _ ha, hx.imp (·.2) ?_, h2, h1⟩
    rintro ⟨dx, u, _, e1, e2⟩
    exact ⟨dx, _, e1, hid_le _ _ e2⟩
  | ins c ns xs => cases h
  | adr a => cases h
  | _ =>
    refine .inl ⟨_, ty_ok (s := ⟨σ, e, A, H⟩) r rfl, ok.ty _ _ ?_⟩
    exact h
/-- an exception that is tracked, as an instance of its class -/
theorem x_inst {pins : List (Addr × Obj)} {σ : L2.St} {H : Hp} {s : Shared} {a C : Addr} {dd : Option Addr} (I : Inv X pins σ H s) (ha : H a = some (.ext (ExP (.ref C) dd a))) (hd : dd = none ∨ ∃ dx fs, dd = some dx ∧ H dx = some (.xd fs)) : ∃ oe od, PySem.W.InstAt s.heap a oe C od := by
  obtain ⟨⟨oe, fv, h1, ⟨h2, h3, _⟩, h4⟩, _⟩ := I.hok a _ ha
  have nc : PySem.W.notCls oe = true := by unfold PySem.W.notCls; rw [h4]
  rcases hd with rfl | ⟨dx, fs, rfl, hx⟩
  · exact ⟨oe, none, h1, h2, nc, by rw [h3]; trivial⟩
  · obtain ⟨mA, hn, _⟩ := (show ObjOk X.prog X.w H s.heap dx (.xd fs) from I.hok dx _ hx)
    obtain ⟨od, ho, _⟩ := lookIn_ns hn
    exact ⟨oe, some od, h1, h2, nc, by rw [h3]; exact ho⟩
theorem x_kit {C : Addr} (x : XIs X.K C) (a : Addr) (oe : Obj) (od : Option Obj) : PySem.W.KitX X.K (.ref a) (.ref C) (fun h => PySem.W.InstAt h a oe C od) := PySem.W.kitx_exc x.c x.ga x.gg x.b x.cl x.n x.s x.o
/-- what is known of a thing that isinstance is asked about -/
def Known (K : PySem.W.Frag) (H : Hp) (v : V) (t : Value) : Prop := TyX K H v t ∨ ∃ (a C : Addr) (dd : Option Addr), t = .ref C ∧ v = .ref a ∧ H a = some (.ext (ExP (.ref C) dd a)) ∧ (dd = none ∨ ∃ dx fs, dd = some dx ∧ H dx = some (.xd fs)) ∧ XIs K C
theorem known_kit {pins : List (Addr × Obj)} {σ : L2.St} {H : Hp} {s : Shared} {v : V} {u t : Value} (I : Inv X pins σ H s) (r : RelV v u) (k : Known X.K H v t) : ∃ P : Heap → Prop, PySem.W.KitX X.K u t P ∧ P s.heap ∧ u ≠ .builtin "__main__.__loader__#opaque" := by
  rcases k with k | ⟨a, C, dd, rfl, rfl, h1, h2, x⟩
  · exact kit_of I r k
  · obtain ⟨oe, od, J⟩ := x_inst I h1 h2
    obtain rfl : u = Value.ref a := r
    exact ⟨_, x_kit x a oe od, J, fun z => nomatch z⟩
def rAsk (K : PySem.W.Frag) : List V → Hp → VK → Prop := fun xs H Q => ∃ (x c : V) (t u : Value) (b : Bool), xs = [x, c] ∧ ClsV c u ∧ Known K H x t ∧ PySem.W.kitOne K t u = some b ∧ Q (.bl b) H
def rAskT (K : PySem.W.Frag) : List V → Hp → VK → Prop := fun xs H Q => ∃ (x : V) (tp : Addr) (cs : List V) (t : Value) (us : List Value) (b : Bool), xs = [x, .ref tp] ∧ H tp = some (.tup cs) ∧ Paired ClsV cs us ∧ Known K H x t ∧ PySem.W.kitAny K t us = some b ∧ Q (.bl b) H
theorem call_ask : CallR X (.builtin "isinstance") (rAsk X.K) := fun pins s σ H xs us Q I r ⟨x, c, t, u, b, e, k, kn, kb, q⟩ => by
  subst e
  obtain ⟨u1, u2, rfl, r1, r2⟩ := vals2 r
  obtain rfl := k.eq r2
  obtain ⟨P, Z, p, ne⟩ := known_kit I r1 kn
  exact PySem.W.kia_one Z I.kIn p kb ne fun tk => ⟨.bl b, H, I.tok tk, rfl, q⟩
theorem call_askT : CallR X (.builtin "isinstance") (rAskT X.K) := fun pins s σ H xs us Q I r ⟨x, tp, cs, t, ws, b, e, hT, k, kn, kb, q⟩ => by
  subst e
  obtain ⟨u1, u2, rfl, r1, r2⟩ := vals2 r
  obtain rfl : u2 = Value.ref tp := r2
  obtain ⟨P, Z, p, ne⟩ := known_kit I r1 kn
  obtain ⟨_, its, rv, o, g1, g2, n, g3⟩ := (show ObjOk X.prog X.w H s.heap tp (.tup cs) from I.hok tp _ hT)
  have e3 := ClsV.all k rv
  subst e3
  have eo : o = ⟨.type "tuple", o.dict, .seq its.toArray n, o.slots⟩ := by cases o; simp only at g2 g3; subst g2 g3; rfl
  rw [eo] at g1
  exact PySem.W.kia_tup Z I.kIn p g1 kb ne fun tk => ⟨.bl b, H, I.tok tk, rfl, q⟩
theorem isOk_known {σ : L2.St} {e : DEnv} {A : Addr → Prop} {H : Hp} {q : IsT} {c : Value} {d : D} {v : V} {b : Bool} (ok : IsOk X.K X.mg q c) (r : RepV (rc X) ⟨σ, e, A, H⟩ d v) (h : isT q d = some b) : ∃ t, Known X.K H v t ∧ PySem.W.kitOne X.K t c = some b := by
  rcases isOk_cls ok r h with ⟨t, k, z⟩ | ⟨a, C, dd, rfl, h1, h2, x, z⟩
  · exact ⟨t, .inl k, z⟩
  · exact ⟨.ref C, .inr ⟨a, C, dd, rfl, rfl, h1, h2, x⟩, z⟩
/-- a class by its name -/
def ClN (X : Cx) (y : Str) (u : Value) : Prop := ∃ c, ClsV c u ∧ ∀ p, PE X (.Name y p) (tC c)
theorem cl_own {y : Str} {C : Addr} (hg : Gl X y) (hm : X.mg y = some (.ref C)) (hd : (y == ("__debug__" : Str)) = false := by decide) : ClN X y (.ref C) := ⟨.ref C, .own C, fun _ => pe_glob hg hm rfl hd⟩
theorem cl_ty {y : Str} {T : String} (hg : Gl X y) (hm : X.mg y = none) (hv : bootBuiltins y = some (.type T)) (hn : y ≠ "__name__" := by decide) (hd : (y == ("__debug__" : Str)) = false := by decide) : ClN X y (.type T) :=
  ⟨.ty T, .ty T, fun _ => pe_bltn hg hm hv rfl hn hd⟩
def eIsC (q : IsT) (f : F1) : F1 := fun e => (f e).bind fun p e1 => match res p e1 with
  | some d => match isT q d with
    | some b => .ok (.dat (.bl b)) e1
    | none => .bot
  | none => .bot
theorem de_isC {q : IsT} {x y : Str} {p p2 : Pos} {u : Value} (hg : Gl X x) (hm : X.mg x = none) (hv : bootBuiltins x = some (.builtin "isinstance")) (ha : DE X fx W a f) (cn : ClN X y u) (ok : IsOk X.K X.mg q u)
    (hn : x ≠ "__name__" := by decide) (hdb : (x == ("__debug__" : Str)) = false := by decide)
    (he : starEach [a, .Name y p2] X.env = (false, eval a X.env) :: starEach [.Name y p2] X.env := by rfl) (he2 : starEach [.Name y p2] X.env = (false, eval (.Name y p2) X.env) :: starEach [] X.env := by rfl) (hpl : (backTo pos (starEach [.Name y p2] X.env)).any (·.1) = false := by rfl) :
    DE X fx W (.Call (.Name x p) [a, .Name y p2] [] pos) (eIsC q f) := by
  obtain ⟨c, cu, ec⟩ := cn
  refine PE.imp (pe_callB call_ask hg hm hv (pa_cons ha (pa_cons (ec p2) pa_nil he2) he) hn hdb he hpl) fun σ H Q z => ?_
  obtain ⟨e, A, a0, z⟩ := z
  refine ⟨e, A, a0, (EPost.bnd a0 z).mono fun v H1 ⟨e1, A1, pv, x1, r1, h1, _⟩ => ?_⟩
  cases q1 : res pv e1 with
  | none => simp only [q1] at h1; exact h1.elim
  | some d =>
    simp only [q1] at h1
    cases q2 : isT q d with
    | none => simp only [q2] at h1; exact h1.elim
    | some b =>
      simp only [q2] at h1
      obtain ⟨t, k, kb⟩ := isOk_known (σ := σ) (e := e1) ok (Sr.val x1.ab r1.1 q1) q2
      exact ⟨v, c, t, u, b, rfl, cu, k, kb, h1 (.bl b) _ rfl (.refl x1.ab) ⟨rfl, trivial⟩⟩
/-- a tuple of classes, written out -/
inductive ClNs (X : Cx) : List Expr → List V → List Value → Prop
  | nil : ClNs X [] [] []
  | cons {e : Expr} {c : V} {u : Value} {es : List Expr} {cs : List V} {us : List Value} (k : ClsV c u) (p : PE X e (tC c)) (s : starEach (e :: es) X.env = (false, eval e X.env) :: starEach es X.env) (r : ClNs X es cs us) : ClNs X (e :: es) (c :: cs) (u :: us)
theorem cn_cons {y : Str} {p : Pos} {u : Value} {es : List Expr} {us : List Value} (h : ClN X y u) (s : starEach (.Name y p :: es) X.env = (false, eval (.Name y p) X.env) :: starEach es X.env) (r : ∃ cs, ClNs X es cs us) : ∃ cs, ClNs X (.Name y p :: es) cs (u :: us) := by
  obtain ⟨c, k, g⟩ := h
  obtain ⟨cs, r⟩ := r
  exact ⟨c :: cs, .cons k (g p) s r⟩
theorem ClNs.pa : ∀ {es : List Expr} {cs : List V} {us : List Value}, ClNs X es cs us → PA X es (fun _ H Q => Q cs H) ∧ Paired ClsV cs us
  | _, _, _, .nil => ⟨pa_nil, .nil⟩
  | _, _, _, .cons k p s r => ⟨PA.imp (pa_cons p r.pa.1 s) fun _ _ _ q => q, .cons k r.pa.2⟩
def isTs : List IsT → D → Option Bool
  | [], _ => some false
  | q :: qs, d => match isT q d with
    | some true => some true
    | some false => isTs qs d
    | none => none
inductive IsOks (X : Cx) : List IsT → List Value → Prop
  | nil : IsOks X [] []
  | cons {q : IsT} {u : Value} {qs : List IsT} {us : List Value} (h : IsOk X.K X.mg q u) (r : IsOks X qs us) : IsOks X (q :: qs) (u :: us)
theorem d_type {σ : L2.St} {e : DEnv} {A : Addr → Prop} {H : Hp} {d : D} {v : V} (r : RepV (rc X) ⟨σ, e, A, H⟩ d v) : (∀ q, isT q d = none) ∨ ∃ t, (∀ q c b, IsOk X.K X.mg q c → isT q d = some b → Known X.K H v t ∧ PySem.W.kitOne X.K t c = some b) := by
  cases d with
  | exn n xs =>
    obtain ⟨a, C, dd, vs, rfl, m, ha, hx, _⟩ := (show Rep (rc X) (hid A H) (.exn n xs) v from r)
    refine .inr ⟨.ref C, fun q c b ok h => ?_⟩
    obtain ⟨h1, h2⟩ := ok.ex n b C h m
    refine ⟨.inr ⟨a, C, dd, rfl, rfl, hid_le _ _ ha, hx.imp (·.2) ?_, h2⟩, h1⟩
    rintro ⟨dx, u, _, e1, e2⟩
    exact ⟨dx, _, e1, hid_le _ _ e2⟩
  | ins c ns xs => exact .inl fun _ => rfl
  | adr a => exact .inl fun _ => rfl
  | _ => exact .inr ⟨_, fun q c b ok h => ⟨.inl (ty_ok (s := ⟨σ, e, A, H⟩) r rfl), ok.ty _ _ h⟩⟩
theorem isOks_any {H : Hp} {d : D} {v : V} {t : Value} (g : ∀ q c b, IsOk X.K X.mg q c → isT q d = some b → Known X.K H v t ∧ PySem.W.kitOne X.K t c = some b) : ∀ {qs : List IsT} {us : List Value} {b : Bool}, IsOks X qs us → isTs qs d = some b → PySem.W.kitAny X.K t us = some b ∧ (qs = [] ∨ Known X.K H v t)
  | [], _, b, .nil, z => ⟨kitAny_nil.trans z, .inl rfl⟩
  | q :: qs, _, b, .cons h hr, z => by
    unfold isTs at z
    cases hq : isT q d with
    | none => rw [hq] at z; cases z
    | some c =>
      obtain ⟨k, kb⟩ := g q _ c h hq
      rw [hq] at z
      refine ⟨kitAny_cons (r := b) kb (fun hc => ?_) (fun hc => ?_), .inr k⟩
      · subst hc
        exact (isOks_any g hr z).1
      · subst hc
        exact (Option.some.inj z).symm
def eIsCs (qs : List IsT) (f : F1) : F1 := fun e => (f e).bind fun p e1 => match res p e1 with
  | some d => match isTs qs d with
    | some b => .ok (.dat (.bl b)) e1
    | none => .bot
  | none => .bot
theorem de_isCs {q : IsT} {qs : List IsT} {x : Str} {p p2 : Pos} {k2 : Nat} {es : List Expr} {us : List Value} (hg : Gl X x) (hm : X.mg x = none) (hv : bootBuiltins x = some (.builtin "isinstance")) (ha : DE X fx W a f) (cn : ∃ cs, ClNs X es cs us) (ok : IsOks X (q :: qs) us) (hl : us.length ≤ 100)
    (hn : x ≠ "__name__" := by decide) (hdb : (x == ("__debug__" : Str)) = false := by decide)
    (he : starEach [a, .Tuple es k2 p2] X.env = (false, eval a X.env) :: starEach [.Tuple es k2 p2] X.env := by rfl) (he2 : starEach [.Tuple es k2 p2] X.env = (false, eval (.Tuple es k2 p2) X.env) :: starEach [] X.env := by rfl) (hpl : (backTo pos (starEach [.Tuple es k2 p2] X.env)).any (·.1) = false := by rfl) :
    DE X fx W (.Call (.Name x p) [a, .Tuple es k2 p2] [] pos) (eIsCs (q :: qs) f) := by
  obtain ⟨cs, cn⟩ := cn
  obtain ⟨pc, pk⟩ := cn.pa
  refine PE.imp (pe_callB call_askT hg hm hv (pa_cons ha (pa_cons (pe_tup pc) pa_nil he2) he) hn hdb he hpl) fun σ H Q z => ?_
  obtain ⟨e, A, a0, z⟩ := z
  refine ⟨e, A, a0, (EPost.bnd a0 z).mono fun v H1 ⟨e1, A1, pv, x1, r1, h1, _⟩ => ?_⟩
  cases q1 : res pv e1 with
  | none => simp only [q1] at h1; exact h1.elim
  | some d =>
    simp only [q1] at h1
    cases q2 : isTs (q :: qs) d with
    | none => simp only [q2] at h1; exact h1.elim
    | some b =>
      simp only [q2] at h1
      refine ⟨?_, fun tp hn => ?_⟩
      · rw [Paired.length pk, sizeLine_eq]
        omega
      have l : St1 (rc X) fx ⟨σ, e1, A1, H1⟩ (SS.lay ⟨σ, e1, A1, H1⟩ tp (.tup cs)) := .lay x1.ab hn
      have rv := Sr.val (s := SS.lay ⟨σ, e1, A1, H1⟩ tp (.tup cs)) l.ab (Sr.step x1.ab l r1.1) q1
      rcases d_type rv with nn | ⟨t, g⟩
      · unfold isTs at q2
        rw [nn q] at q2
        cases q2
      · obtain ⟨kb, kn⟩ := isOks_any g ok q2
        exact ⟨v, tp, cs, t, us, b, rfl, upd_same, pk, kn.resolve_left (fun z => nomatch z), kb, h1 (.bl b) _ rfl l ⟨rfl, trivial⟩⟩
/-! ### e.at -/
/-- the module's text of a class whose exceptions have an `at` -/
structure XAt (K : PySem.W.Frag) (C : Addr) : Prop where
  i : XIs K C
  no : PySem.W.findIn K (.ref C) "at" = some none
def rAtX (K : PySem.W.Frag) (v : V) (H : Hp) (Q : VK) : Prop := ∃ (a C dx : Addr) (u : V), v = .ref a ∧ H a = some (.ext (ExP (.ref C) (some dx) a)) ∧ H dx = some (.xd [(("at" : Str), u)]) ∧ XAt K C ∧ Q u H
theorem pe_at {te : TE} (he : PE X a te) (hb : attributeBase a "at" X.env (eval a X.env) = eval a X.env) : PE X (.Attribute a "at" pos) (fun σ H Q => te σ H fun v H1 => rAtX X.K v H1 Q) := by
  constructor
  intro pins s σ H Q I h
  refine attr_of hb (thn (he.run pins s σ H _ I h) fun u s1 ⟨v, H1, I1, r, a, C, dx, w, e1, h1, h2, x, q⟩ => ?_)
  subst e1
  obtain rfl : u = Value.ref a := r
  obtain ⟨⟨oe, fv, g1, ⟨g2, g3, _⟩, g4⟩, _⟩ := I1.hok a _ h1
  obtain ⟨mA, hn, hr⟩ := (show ObjOk X.prog X.w H1 s1.heap dx (.xd [(("at" : Str), w)]) from I1.hok dx _ h2)
  obtain ⟨od, ho, hl⟩ := lookIn_ns hn
  obtain ⟨y, hy, ry⟩ := RelO.some_of (v := w) (o := mA "at") (hr "at")
  have J : PySem.W.InstAt s1.heap a oe C (some od) := ⟨g1, g2, by unfold PySem.W.notCls; rw [g4], by rw [g3]; exact ho⟩
  exact PySem.HandSPX.exc_get I1.kIn J x.i.ga x.i.gg x.i.b (PySem.W.findObj_own x.i.d x.no rfl (by rw [hl, hy])) (handed_of ry) ⟨w, H1, I1.tok _, ry, q⟩
def eAt (ns : List Str) (f : F1) : F1 := fun e => (f e).bind fun p e1 => match res p e1 with
  | some (.exn c [d]) => if ns.contains c = true then .ok (.dat d) e1 else .bot
  | _ => .bot
def AtOk (K : PySem.W.Frag) (mg : Str → Option Value) (ns : List Str) : Prop := ∀ n C, ns.contains n = true → mg n = some (.ref C) → XAt K C
theorem de_at {ns : List Str} (ok : AtOk X.K X.mg ns) (ha : DE X fx W a f) (hat : attributeBase a "at" X.env (eval a X.env) = eval a X.env := by rfl) : DE X fx W (.Attribute a "at" pos) (eAt ns f) := by
  refine PE.imp (pe_at ha hat) fun σ H Q z => ?_
  obtain ⟨e, A, a0, z⟩ := z
  refine ⟨e, A, a0, (EPost.bnd a0 z).mono fun v H1 ⟨e1, A1, pv, x1, r1, h1, _⟩ => ?_⟩
  cases q1 : res pv e1 with
  | none => simp only [q1] at h1; exact h1.elim
  | some d =>
    simp only [q1] at h1
    split at h1
    · rename_i c d' hd
      obtain rfl : d = .exn c [d'] := Option.some.inj hd
      split at h1
      · rename_i hc
        obtain ⟨y, C, dd, vs, rfl, m, g1, g2, g3⟩ := (show Rep (rc X) (hid A1 H1) (.exn c [d']) v from Sr.val (s := ⟨σ, e1, A1, H1⟩) x1.ab r1.1 q1)
        obtain ⟨w, ws, rfl, rw', _⟩ := g3
        rcases g2 with ⟨z, _⟩ | ⟨dx, u, z, rfl, g4⟩
        · cases z
        · cases z
          exact ⟨y, C, dx, w, rfl, hid_le _ _ g1, hid_le _ _ g4, ok c C hc m, h1 w _ rfl (.refl x1.ab) ⟨rw', trivial⟩⟩
      · exact h1.elim
    · exact h1.elim
end
end DL

set_option Elab.async false
set_option linter.all false
set_option maxRecDepth 100000
set_option maxHeartbeats 1000000
/-! an exception class whose maker keeps what it is given as `at` -/
namespace DL
open PySem PySem.Spec L2 PyProof.Rows
/-- the text of the base class whose maker is called -/
structure XBase (K : PySem.W.Frag) (B : Addr) : Prop where
  sp : PySem.W.specialIn K (.ref B) "__getattribute__" = some (some (.builtin "type.__getattribute__"))
  t : PySem.W.typeIn K (.ref B) = some (.type "type")
  rd : PySem.W.readsIn K B (.type "type") = true
  fc : PySem.W.findCls K (.ref B) (.type "type") "__init__" = some (.val (.builtin "ValueError.__init__"))
section
variable {X : Cx} {e : Expr} {es : List Expr} {ta : TA} {pos : Pos}
theorem pe_binit {pl : Sem Bool} {y : Str} {p1 p2 : Pos} {B : Addr} (hg : Gl X y) (hm : X.mg y = some (.ref B)) (b : XBase X.K B) (ha : PA X (e :: es) ta) (hd : (y == ("__debug__" : Str)) = false := by decide)
    (hc : eval (.Call (.Attribute (.Name y p1) "__init__" p2) (e :: es) [] pos) X.env = (eval (.Name y p1) X.env >>= fun ov => standAt p2.atName >>= fun _ => holding [ov] (getMethod ov "__init__" pl) >>= fun m => callWith pos m.1 m.2 (backTo pos (starEach (e :: es) X.env)) (backToKw pos (keywordEach [] X.env))) := by rfl)
    (he : starEach (e :: es) X.env = (false, eval e X.env) :: starEach es X.env := by rfl) (hpl : (backTo pos (starEach es X.env)).any (·.1) = false := by rfl) :
    PE X (.Call (.Attribute (.Name y p1) "__init__" p2) (e :: es) [] pos) (tVeI X.K ta) := by
  constructor
  intro pins s σ H Q I h
  refine PySem.W.methodCall_KW (ld_glob I hg hm ?_ hd) hc
  obtain ⟨m, fr⟩ := I.fr
  refine PySem.W.method_of_cls fr I.ok.mod.kin b.sp (PySem.W.cls_val fr I.ok.mod.kin b.t b.rd b.fc (by decide +kernel) ?_)
  refine PyProof.Rows.callWith_method1 (thn (ha.run pos pins _ σ H _ (I.tok _) h) fun us t z => ?_) he hpl
  obtain ⟨vs, H1, J, r, a, C, ws, rfl, n, o, g, q⟩ := z
  cases r with
  | cons r1 r2 =>
    obtain rfl := (show _ = Value.ref a from r1)
    refine oinit_ok o J g ?_ fun t' J' => ⟨.non, H1, J', rfl, q⟩
    have l := Paired.length r2
    rw [sizeLine_eq]
    omega
end
/-- what such a maker does -/
def atSp (K : PySem.W.Frag) : Sp := fun vs H Q _ => ∃ (a C : Addr) (v : V), vs = [.ref a, v] ∧ OexC K C ∧ PySem.W.findIn K (.ref C) "at" = some none ∧ H a = some (exo a C none) ∧ ∀ dx, H dx = none → dx ≠ a → Q .non (upd (upd H dx (exd dx [(("at" : Str), v)])) a (exo a C (some dx)))
section
variable {P : Program} {w : World} {K : PySem.W.Frag} {mg : Str → Option Value} {base : Heap}
theorem atSp_len : ∀ vs H Q E, atSp K vs H Q E → vs.length = (["self", "at"] : List Str).length := fun vs H Q E ⟨a, C, v, e, _⟩ => by rw [e]; rfl
/-- the maker's two statements -/
def tMaker (K : PySem.W.Frag) (m : Str) : TS := fun D σ H => tDrop (tVeI K (tCons (tVar 0) (tCons (tC (.str m)) tNil))) { D with nx := tOst K "at" (tVar 0) (tVar 1) D } σ H
theorem at_ok {m : Str} {X : Cx} {body : List Stmt} {vs : List V} {H : Hp} {Q : VK} {E : XK} (h : atSp K vs H Q E) (p : PSs X body (tMaker K m)) : ∃ t, PSs X body t ∧ t { nx := fun _ H' => Q .non H', rt := Q } (L2.start ["self", "at"] vs) H := by
  obtain ⟨a, C, v, rfl, o, no, g, q⟩ := h
  refine ⟨_, p, .ref a, rfl, a, C, [.str m], rfl, by simp, o, g, ?_⟩
  exact ⟨v, rfl, .ref a, rfl, a, C, rfl, o, no, .inl ⟨g, fun dx h1 h2 => q dx h1 h2⟩⟩
end
/-- C(e, ..) where nothing is handled: the exception's context is None -/
theorem pmk_oexN {X : Cx} {CX : CXT} {x : Str} {p pos : Pos} {a : Expr} {es : List Expr} {C fI : Addr} {k : Nat} {fd : FuncData} {ps : List Str} {sp : Sp} {ta : TA} (T : OexC X.K C) (iC : PySem.W.findIn X.K (.ref C) "__init__" = some (some (.ref fI))) (tI : PySem.W.typeIn X.K (.ref fI) = some (.type "function"))
    (G : FnOk X.prog X.w X.K X.mg X.base CX k fI fd ps sp) (hr : Room (k + 1) X.A) (hb : Binds X.K fd ps []) (hx : Passes CX X (fun _ _ _ => False)) (hg : Gl X x) (hm : X.mg x = some (.ref C)) (ha : PA X (a :: es) ta)
    (hdb : (x == ("__debug__" : Str)) = false) (he : starEach (a :: es) X.env = (false, eval a X.env) :: starEach es X.env) (hpl : (backTo pos (starEach es X.env)).any (·.1) = false) :
    L2N.PMk X (.Call (.Name x p) (a :: es) [] pos) (tMkO C sp [] ta) := fun pins s σ H Q I h => by
  refine wpAny_Call_Name_kw (ld_glob I hg hm (PySem.W.callWith_K (h₀ := X.base) I.ok.mod.kin T.kC (thn (ha.run pos pins s σ H _ I h) fun us s1 z => ?_) he hpl) hdb)
  obtain ⟨vs, H1, J, rv, _, w⟩ := z
  refine ⟨J.kIn, ?_⟩
  obtain ⟨hp, gg, dr, tk, os⟩ := s1
  obtain ⟨_, _, _, _, bm, _, _, _, _, _, _, _, _, _, _, hC, hbm⟩ := T.cls
  generalize ea : hp.objs.size + 1 = l at w
  have big : hp.objs.size ≤ l := by omega
  have fr : H1 l = none := J.hok.fresh big
  have w1 := w l fr
  rw [List.append_nil] at w1
  have keep : ∀ b o, hp.get? b = some o → ((hp.push (PySem.W.kdv_tup us)).push (PySem.HandSPX.excO C hp.objs.size)).get? b = some o := fun b o z => Heap.get?_push_of_some _ (Heap.get?_push_of_some _ z)
  have at_ : ((hp.push (PySem.W.kdv_tup us)).push (PySem.HandSPX.excO C hp.objs.size)).get? l = some (PySem.HandSPX.excO C hp.objs.size) := by
    subst ea
    heap_get
  have J2 : Inv X pins σ (upd H1 l (exo l C none)) ⟨(hp.push (PySem.W.kdv_tup us)).push (PySem.HandSPX.excO C hp.objs.size), gg, dr, tk, os⟩ := J.laid (t' := tk) keep big (exo_ok at_)
  have rv2 : Vals (V.ref l :: vs) (Value.ref l :: us) := .cons rfl rv
  have len : (Value.ref l :: us).length = ps.length := rv2.length.symm.trans (G.len _ _ _ _ w1)
  have few : us.length ≤ sizeLine := by
    rw [← Paired.length rv, sizeLine_eq]
    omega
  have bi := hb ⟨(hp.push (PySem.W.kdv_tup us)).push (PySem.HandSPX.excO C hp.objs.size), gg, dr, tk, os⟩ (Value.ref l :: us) J2.kIn (by rw [List.append_nil]; exact len)
  rw [List.append_nil] at bi
  have run := G.run _ X.stack _ _ ⟨Value.ref l :: us, []⟩ (Value.ref l :: us) _ _ (fun _ _ _ => False) (hr.make C us []) (J2.env0.make C us []) bi rv2 w1
  refine wpAny_call (PySem.HandSPX.call_own F.excBase_ValueError (fun Y => PySem.HandSPX.refsVE_contains Y bm hbm) (J.kIn _ _ hC) (PySem.W.looks_findIn J.kIn iC) (fun self => PySem.W.bind_fn J.kIn self tI) few ?_)
  show codeAny _ _ _ _ _
  subst ea
  refine codeAny_mono run fun r s' z => ?_
  match r, z with
  | .error er, z => exact hx pins σ _ _ er s' J2 z
  | .ok .next, z => exact z.elim
  | .ok .brk, z => exact z.elim
  | .ok .cont, z => exact z.elim
  | .ok (.ret u), z =>
    obtain ⟨v, H2, o2, b2, un2, ok2, ru, ev, d, fs, e1, e2, n1, w2⟩ := z
    subst ev
    obtain ⟨h2, g2, d2, t2, o'⟩ := s'
    obtain ⟨_, G2, K, kG, gA, hoe, na⟩ := mk_end0 (d2 := d2) (t2 := t2) J big keep un2 ok2 o2 b2 e1 e2 n1
    exact ⟨ru, _, _, _, ⟨G2, g2, d2, t2, o'⟩, _, .ref C, some d, rfl, K, kG, gA, hoe, ⟨rfl, rfl, fun _ q => by cases q; rfl⟩, rfl, rfl, na, rfl, b2, raises_own T.exC T.tyC, w2⟩
theorem upd_at {H : Hp} {a d : Addr} {x y z u : HO} (na : H a = none) (ne : d ≠ a) : upd (L2.del (upd (upd (upd H a x) d y) a z) a) d u = upd H d u := by
  funext b
  unfold L2.del upd
  by_cases h1 : b = d
  · rw [if_pos h1, if_pos h1]
  · by_cases h2 : b = a
    · subst h2
      simp only [h1, if_false, if_true, na]
    · simp only [h1, h2, if_false]
section
variable {X : Cx} {fx : List (Nat × V)} {W : WX} {pos : Pos} {a : Expr} {f : F1}
def sRaiseA (x : Str) (f : F1) : FS := fun e => (eItems [f] e).bindS fun ds e1 => match ds with
  | [d] => .ex ⟨x, some d⟩ e1
  | _ => .bot
theorem ds_raiseA {x : Str} {p pos' : Pos} {C fI : Addr} {fd : FuncData} {k : Nat} (hc : X.calm = true) (tk : L2N.Takes X W) (o : OexC X.K C) (iC : PySem.W.findIn X.K (.ref C) "__init__" = some (some (.ref fI))) (tI : PySem.W.typeIn X.K (.ref fI) = some (.type "function"))
    (no : PySem.W.findIn X.K (.ref C) "at" = some none) (G : FnOk X.prog X.w X.K X.mg X.base (L2N.CX X.prog X.w) k fI fd ["self", "at"] (atSp X.K)) (hr : Room (k + 1) X.A) (hb : Binds X.K fd ["self", "at"] []) (hg : Gl X x) (hm : X.mg x = some (.ref C)) (ha : DD X fx W [a] (eItems [f]))
    (hdb : (x == ("__debug__" : Str)) = false := by decide) (he : starEach [a] X.env = (false, eval a X.env) :: starEach [] X.env := by rfl) (hpl : (backTo pos (starEach [] X.env)).any (·.1) = false := by rfl) :
    DS X fx W (.Raise (some (.Call (.Name x p) [a] [] pos)) none pos') (sRaiseA x f) :=
  PS.imp (L2N.ps_raise hc tk (pmk_oexN o iC tI G hr hb (pass_none fun _ _ _ h => h) hg hm ha hdb he hpl)) fun D σ H q => by
    obtain ⟨e, A, a0, q⟩ := q
    refine ⟨e, A, a0, (SPost.bnd a0 q).mono fun vs H1 ⟨e1, A1, ds, x1, r1, h1, _⟩ => ?_⟩
    match ds, h1 with
    | [], h1 => exact h1.elim
    | _ :: _ :: _, h1 => exact h1.elim
    | [d], h1 =>
      obtain ⟨v, ws, rfl, rv, rw'⟩ := (show RepL (rc X) (hid A1 H1) [d] vs from r1)
      obtain rfl := (show ws = [] from rw')
      refine ⟨by simp, fun y hy => ⟨y, C, v, rfl, o, no, upd_same, fun dx n1 n2 => ⟨rfl, dx, [(("at" : Str), v)], upd_same, ?_, ?_, ?_⟩⟩⟩
      · rw [upd_ne n2, upd_same]
      · rwa [upd_ne n2] at n1
      · rw [upd_at hy n2]
        have n3 : H1 dx = none := by rwa [upd_ne n2] at n1
        have l : St1 (rc X) fx ⟨σ, e1, A1, H1⟩ (SS.lay ⟨σ, e1, A1, H1⟩ dx (.xd [(("at" : Str), v)])) := .lay x1.ab n3
        exact h1 _ (some dx) _ rfl l.st2 ⟨C, hm, rfl, dx, v, rfl, hid_some.mpr ⟨Sa.ne (s := ⟨σ, e1, A1, H1⟩) x1.ab n3, upd_same⟩, Rep.le (lay_hid (s := ⟨σ, e1, A1, H1⟩) n3) d v rv⟩
end
end DL

set_option Elab.async false
set_option linter.all false
set_option maxRecDepth 100000
set_option maxHeartbeats 1000000
/-! a list of one's own, so many times -/
namespace DL
open PySem PySem.Spec L2 PyProof.Rows
section
variable {X : Cx} {fx : List (Nat × V)} {W : WX} {pos : Pos} {a b : Expr} {f g : F1}
/-- the list that stands in p, if no other knows it -/
def mine (p : PV) (e : DEnv) : Option (List D) := match p with
  | .fresh (.lst xs) => some xs
  | .pk i => match e[i]? with
    | some (.own (.lst xs)) => some xs
    | _ => none
  | _ => none
def times (xs : List D) (k : Int) : Option (List D) := if -1000000 ≤ k ∧ k ≤ 1000000 ∧ xs.length * k.toNat ≤ 1000000 then some (List.replicate k.toNat xs).flatten else none
def repO (e : DEnv) (o : Option (List D)) : EO PV := match o with
  | some ys => .ok (.fresh (.lst ys)) e
  | none => .bot
def repQ (xs : List D) (q : PV) (e : DEnv) : EO PV := match q with
  | .dat (.int k) => repO e (times xs k)
  | _ => .bot
def repL (q : PV) (e : DEnv) (o : Option (List D)) : EO PV := match o with
  | some xs => repQ xs q e
  | none => .bot
def rep2 (p q : PV) (e : DEnv) : EO PV := repL q e (mine p e)
def rep1 (g : F1) (p : PV) (e : DEnv) : EO PV := (g e).bind (rep2 p)
def eRep (f g : F1) : F1 := fun e => (f e).bind (rep1 g)
theorem mine_at {R : RC} {s : SS} {v : V} {p : PV} {xs : List D} (h : Sa R fx s) (r : Sr R s v p) (m : mine p s.e = some xs) : ∃ l vs, v = .ref l ∧ s.H l = some (.lst vs) ∧ RepL R (hid s.A s.H) xs vs := by
  unfold mine at m
  split at m
  · cases m
    obtain ⟨l, ho, rfl, _, _, g, vs, rfl, q⟩ := r
    exact ⟨l, vs, rfl, g, q⟩
  · rename_i i
    split at m
    · rename_i ys hc
      cases m
      obtain ⟨l, ho, g1, _, g2, vs, rfl, q⟩ := h.own i _ hc
      obtain ⟨g3, _⟩ := r
      rw [g1] at g3
      cases g3
      exact ⟨l, vs, rfl, g2, q⟩
    · cases m
  · cases m
theorem de_rep (ha : DE X fx W a f) (hb : DE X fx W b g) : DE X fx W (.BinOp a .Mult b pos) (eRep f g) := by
  refine PE.imp (pe_op op_rep ha hb) fun σ H Q z => ?_
  obtain ⟨e, A, a0, z⟩ := z
  refine ⟨e, A, a0, (EPost.bnd a0 z).mono fun x H1 ⟨e1, A1, p, x1, r1, h1, _⟩ => ?_⟩
  refine ⟨e1, A1, x1.ab, (EPost.bnd x1.ab h1).mono fun y H2 ⟨e2, A2, q, x2, r2, h2, _⟩ => ?_⟩
  unfold rep2 at h2
  cases hm : mine p e2 with
  | none => rw [hm] at h2; exact h2.elim
  | some xs =>
    rw [hm] at h2
    obtain ⟨l, vs, rfl, hl, rv⟩ := mine_at (s := ⟨σ, e2, A2, H2⟩) x2.ab (Sr.step x1.ab x2 r1.1) hm
    have int : ∀ k : Int, q = .dat (.int k) → rRep (.ref l) y H2 Q := fun k hq => by
      subst hq
      have h2 : EPost (RE (rc X) fx) W ⟨σ, e2, A2, H2⟩ Q (repO e2 (times xs k)) := h2
      unfold times at h2
      split at h2
      · rename_i hb
        refine ⟨l, k, vs, rfl, r2.1, hl, by omega, by omega, by rw [RepL.length rv]; exact szle hb.2.2, fun m hm => ?_⟩
        exact h2 (.ref m) _ rfl (.layO x2.ab hm) ⟨Sr.lst x2.ab hm (rv.repl k.toNat), fun l' e => by cases e; exact hm⟩
      · exact h2.elim
    cases q with
    | pk i => exact h2.elim
    | fresh d => exact h2.elim
    | dat d => cases d <;> first | exact h2.elim | exact int _ rfl
end
section
variable {e : DEnv} {f g : F1}
def mineC (c : Option Cell) : Option (List D) := match c with
  | some (.own (.lst xs)) => some xs
  | _ => none
theorem k_rep : eRep f g e = (f e).bind (rep1 g) := rfl
theorem k_rep1 (p : PV) : rep1 g p e = (g e).bind (rep2 p) := rfl
theorem k_rep2 (p q : PV) : rep2 p q e = repL q e (mine p e) := rfl
theorem k_repL (xs : List D) (k : Int) : repL (.dat (.int k)) e (some xs) = repO e (times xs k) := rfl
theorem k_repO (ys : List D) : repO e (some ys) = .ok (.fresh (.lst ys)) e := rfl
theorem k_mine_fresh (xs : List D) : mine (.fresh (.lst xs)) e = some xs := rfl
theorem k_mine_pk (i : Nat) : mine (.pk i) e = mineC e[i]? := rfl
theorem k_mineC (xs : List D) : mineC (some (.own (.lst xs))) = some xs := rfl
end
theorem rep_one (d : D) : ∀ n : Nat, (List.replicate n [d]).flatten = List.replicate n d
  | 0 => rfl
  | n + 1 => by rw [List.replicate_succ, List.replicate_succ, List.flatten_cons, rep_one d n]; rfl
/-- n times d (kept whole by simp) -/
def rp (n : Nat) (d : D) : List D := List.replicate n d
theorem rp_len (n : Nat) (d : D) : (rp n d).length = n := List.length_replicate
theorem k_times1 (d : D) (k : Int) (h : 0 ≤ k) (h2 : k ≤ 1000000) : times [d] k = some (rp k.toNat d) := by
  unfold times
  rw [if_pos ⟨by omega, h2, by simp; omega⟩, rep_one]
  rfl
end DL

set_option Elab.async false
set_option linter.all false
set_option maxRecDepth 100000
set_option maxHeartbeats 1000000
/-! reckoning with exceptions; their tables -/
namespace DL
open PySem PySem.Spec L2 PyProof.Rows
section
variable {K : PySem.W.Frag} {mg : Str → Option Value}
theorem tb_none {c : Value} : TbOk K mg [] c := fun _ _ _ h => nomatch h
theorem tb_and {c : Value} {n : Str} {b : Bool} {C : Addr} {t : List (Str × Bool)} (hm : mg n = some (.ref C)) (h : PySem.W.exmOne K (.ref C) c = some b) (r : TbOk K mg t c) : TbOk K mg ((n, b) :: t) c := fun n' b' C' l m => by
  rw [List.lookup_cons] at l
  cases e : n' == n with
  | false => rw [e] at l; exact r n' b' C' l m
  | true =>
    rw [e] at l
    obtain rfl : b = b' := Option.some.inj l
    obtain rfl : n' = n := by simpa using e
    obtain rfl : C = C' := Value.ref.inj (Option.some.inj (hm.symm.trans m))
    exact h
def ExOk (K : PySem.W.Frag) (mg : Str → Option Value) (t : List (Str × Bool)) (c : Value) : Prop := ∀ n b C, t.lookup n = some b → mg n = some (.ref C) → PySem.W.kitOne K (.ref C) c = some b ∧ XIs K C
theorem ex_none {c : Value} : ExOk K mg [] c := fun _ _ _ h => nomatch h
theorem ex_and {c : Value} {n : Str} {b : Bool} {C : Addr} {t : List (Str × Bool)} (hm : mg n = some (.ref C)) (h : PySem.W.kitOne K (.ref C) c = some b) (x : XIs K C) (r : ExOk K mg t c) : ExOk K mg ((n, b) :: t) c := fun n' b' C' l m => by
  rw [List.lookup_cons] at l
  cases e : n' == n with
  | false => rw [e] at l; exact r n' b' C' l m
  | true =>
    rw [e] at l
    obtain rfl : b = b' := Option.some.inj l
    obtain rfl : n' = n := by simpa using e
    obtain rfl : C = C' := Value.ref.inj (Option.some.inj (hm.symm.trans m))
    exact ⟨h, x⟩
def TyOk (K : PySem.W.Frag) (mg : Str → Option Value) (t : List (String × Bool)) (c : Value) : Prop := ∀ n b, t.lookup n = some b → PySem.W.kitOne K (.type n) c = some b
theorem ty_none {c : Value} : TyOk K mg [] c := fun _ _ h => nomatch h
theorem ty_and {c : Value} {n : String} {b : Bool} {t : List (String × Bool)} (h : PySem.W.kitOne K (.type n) c = some b) (r : TyOk K mg t c) : TyOk K mg ((n, b) :: t) c := fun n' b' l => by
  rw [List.lookup_cons] at l
  cases e : n' == n with
  | false => rw [e] at l; exact r n' b' l
  | true =>
    rw [e] at l
    obtain rfl : b = b' := Option.some.inj l
    obtain rfl : n' = n := by simpa using e
    exact h
theorem is_ok {q : IsT} {c : Value} (h1 : ExOk K mg q.ex c) (h2 : TyOk K mg q.ty c) : IsOk K mg q c := ⟨h1, h2⟩
theorem at_none : AtOk K mg [] := fun _ _ h => nomatch h
theorem at_and {n : Str} {C : Addr} {ns : List Str} (hm : mg n = some (.ref C)) (x : XAt K C) (r : AtOk K mg ns) : AtOk K mg (n :: ns) := fun n' C' l m => by
  rw [List.contains_cons, Bool.or_eq_true] at l
  rcases l with e | l
  · obtain rfl : n' = n := by simpa using e
    obtain rfl : C = C' := Value.ref.inj (Option.some.inj (hm.symm.trans m))
    exact x
  · exact r n' C' l m
/-! kitOne, exmOne from what the module's text tells -/
theorem kit_own {K : PySem.W.Frag} {t : Value} {C : Addr} {b : Bool} (c : PySem.W.isClsIn K C = true) (ty : PySem.W.typeIn K (.ref C) = some (.type "type")) (h : PySem.W.subIn K t (.ref C) = some b) (e : t = .ref C → b = true) : PySem.W.kitOne K t (.ref C) = some b := by
  unfold PySem.W.kitOne
  by_cases q : (t == Value.ref C) = true
  · rw [if_pos q, e (by simpa using q)]
  · rw [if_neg q]
    show (if ((PySem.W.clsIn K C).isSome && PySem.W.typeIn K (.ref C) == some (.type "type")) = true then PySem.W.subIn K t (.ref C) else none) = some b
    have c' : (PySem.W.clsIn K C).isSome = true := c
    rw [if_pos, h]
    rw [c', ty]
    rfl
theorem exm_own {K : PySem.W.Frag} {t : Value} {C : Addr} {b : Bool} (bs : PySem.W.subIn K (.ref C) (.type "BaseException") = some true) (c : PySem.W.isClsIn K C = true) (ty : PySem.W.typeIn K (.ref C) = some (.type "type")) (h : PySem.W.subIn K t (.ref C) = some b) : PySem.W.exmOne K t (.ref C) = some b := by
  unfold PySem.W.exmOne
  rw [if_pos (by rw [bs]; rfl)]
  show (if ((PySem.W.clsIn K C).isSome && PySem.W.typeIn K (.ref C) == some (.type "type")) = true then PySem.W.subIn K t (.ref C) else none) = some b
  have c' : (PySem.W.clsIn K C).isSome = true := c
  rw [if_pos, h]
  rw [c', ty]
  rfl
theorem kit_ve {K : PySem.W.Frag} {C : Addr} (h : PySem.W.subIn K (.ref C) (.type "ValueError") = some true) : PySem.W.kitOne K (.ref C) (.type "ValueError") = some true := h
theorem kit_nve {K : PySem.W.Frag} : PySem.W.kitOne K (.type "NoneType") (.type "ValueError") = some false := kit_ty (by decide +kernel)
end
section
variable {e : DEnv} {f : F1}
/-! ### rules for simp -/
def tryO (hs : List Hd) (o : SO) : SO := match o with
  | .ex x e1 => tryH hs x e1
  | o => o
def tryL (n : Option Nat) (F : FS) (hs : List Hd) (x : Exn) (e : DEnv) (b : Option Bool) : SO := match b with
  | some true => hdOut n (F (hdIn n x e))
  | some false => tryH hs x e
  | none => .bot
theorem k_try (F : FS) (hs : List Hd) : sTry F hs e = tryO hs (F e) := rfl
theorem k_tryO_nx (hs : List Hd) : tryO hs (.nx e) = .nx e := rfl
theorem k_tryO_rt (hs : List Hd) (p : PV) : tryO hs (.rt p e) = .rt p e := rfl
theorem k_tryO_ex (hs : List Hd) (x : Exn) : tryO hs (.ex x e) = tryH hs x e := rfl
theorem k_tryO_if {c : Prop} [Decidable c] (hs : List Hd) (a b : SO) : tryO hs (if c then a else b) = if c then tryO hs a else tryO hs b := by split <;> rfl
theorem k_tryH0 (x : Exn) : tryH [] x e = .ex x e := rfl
theorem k_tryH (t : List (Str × Bool)) (n : Option Nat) (F : FS) (hs : List Hd) (c : Str) (a : Option D) : tryH (⟨t, n, F⟩ :: hs) ⟨c, a⟩ e = tryL n F hs ⟨c, a⟩ e (t.lookup c) := rfl
theorem k_tryL1 (n : Option Nat) (F : FS) (hs : List Hd) (x : Exn) : tryL n F hs x e (some true) = hdOut n (F (hdIn n x e)) := rfl
theorem k_tryL0 (n : Option Nat) (F : FS) (hs : List Hd) (x : Exn) : tryL n F hs x e (some false) = tryH hs x e := rfl
theorem k_hdIn0 (x : Exn) : hdIn none x e = e := rfl
theorem k_hdIn1 (i : Nat) (c : Str) : hdIn (some i) ⟨c, none⟩ e = e.set i (.val (.exn c [])) := rfl
theorem k_hdIn2 (i : Nat) (c : Str) (d : D) : hdIn (some i) ⟨c, some d⟩ e = e.set i (.val (.exn c [d])) := rfl
theorem k_hdOut0 : hdOut none (.nx e) = .nx e := rfl
theorem k_hdOut1 (i : Nat) : hdOut (some i) (.nx e) = .nx (e.set i .no) := rfl
theorem k_hdOutr (n : Option Nat) (p : PV) : hdOut n (.rt p e) = .rt p e := by cases n <;> rfl
theorem k_hdOut_if {c : Prop} [Decidable c] (n : Option Nat) (a b : SO) : hdOut n (if c then a else b) = if c then hdOut n a else hdOut n b := by split <;> rfl
theorem k_raise (x : Str) : sRaise x e = .ex ⟨x, none⟩ e := rfl
def raK (x : Str) (ds : List D) (e : DEnv) : SO := match ds with
  | [d] => .ex ⟨x, some d⟩ e
  | _ => .bot
theorem k_raiseA (x : Str) : sRaiseA x f e = (eItems [f] e).bindS (raK x) := rfl
theorem k_raK (x : Str) (d : D) : raK x [d] e = .ex ⟨x, some d⟩ e := rfl
def icO (e : DEnv) (b : Option Bool) : EO PV := match b with
  | some b => .ok (.dat (.bl b)) e
  | none => .bot
def icD (q : IsT) (e : DEnv) (d : Option D) : EO PV := match d with
  | some d => icO e (isT q d)
  | none => .bot
def icK (q : IsT) (p : PV) (e : DEnv) : EO PV := icD q e (res p e)
theorem k_isC (q : IsT) : eIsC q f e = (f e).bind (icK q) := by
  unfold eIsC
  congr 1
theorem k_icK (q : IsT) (p : PV) : icK q p e = icD q e (res p e) := rfl
theorem k_icD (q : IsT) (d : D) : icD q e (some d) = icO e (isT q d) := rfl
theorem k_icO (b : Bool) : icO e (some b) = .ok (.dat (.bl b)) e := rfl
def icsD (q : List IsT) (e : DEnv) (d : Option D) : EO PV := match d with
  | some d => icO e (isTs q d)
  | none => .bot
def icsK (q : List IsT) (p : PV) (e : DEnv) : EO PV := icsD q e (res p e)
theorem k_isCs (q : List IsT) : eIsCs q f e = (f e).bind (icsK q) := by
  unfold eIsCs
  congr 1
theorem k_icsK (q : List IsT) (p : PV) : icsK q p e = icsD q e (res p e) := rfl
theorem k_icsD (q : List IsT) (d : D) : icsD q e (some d) = icO e (isTs q d) := rfl
def isTsL (qs : List IsT) (d : D) (b : Option Bool) : Option Bool := match b with
  | some true => some true
  | some false => isTs qs d
  | none => none
theorem k_isTs0 (d : D) : isTs [] d = some false := rfl
theorem k_isTs (q : IsT) (qs : List IsT) (d : D) : isTs (q :: qs) d = isTsL qs d (isT q d) := rfl
theorem k_isTsL1 (qs : List IsT) (d : D) : isTsL qs d (some true) = some true := rfl
theorem k_isTsL0 (qs : List IsT) (d : D) : isTsL qs d (some false) = isTs qs d := rfl
def atB (d : D) (e : DEnv) (b : Bool) : EO PV := if b = true then .ok (.dat d) e else .bot
def atD (ns : List Str) (e : DEnv) (d : Option D) : EO PV := match d with
  | some (.exn c [d]) => atB d e (ns.contains c)
  | _ => .bot
def atK (ns : List Str) (p : PV) (e : DEnv) : EO PV := atD ns e (res p e)
theorem k_eAt (ns : List Str) : eAt ns f e = (f e).bind (atK ns) := rfl
theorem k_atK (ns : List Str) (p : PV) : atK ns p e = atD ns e (res p e) := rfl
theorem k_atD (ns : List Str) (c : Str) (d : D) : atD ns e (some (.exn c [d])) = atB d e (ns.contains c) := rfl
theorem k_atB (d : D) : atB d e true = .ok (.dat d) e := rfl
theorem k_isn_exn (c : Str) (xs : List D) : isNon (.exn c xs) = false := rfl
theorem k_nl_exn (c : Str) (xs : List D) : nolst (.exn c xs) = nolsts xs := by simp [nolst]
end
end DL
namespace DL
open PySem PySem.Spec L2 PyProof.Rows
theorem kit_own2 {K : PySem.W.Frag} {t : Value} {C : Addr} {b : Bool} (c : PySem.W.isClsIn K C = true) (ty : PySem.W.typeIn K (.ref C) = some (.type "type")) (h : PySem.W.subIn K t (.ref C) = some b) (z : PySem.W.subIn K (.ref C) (.ref C) = some true) : PySem.W.kitOne K t (.ref C) = some b :=
  kit_own c ty h fun e => by
    subst e
    exact (Option.some.inj (z.symm.trans h)).symm
end DL

set_option Elab.async false
set_option linter.all false
set_option maxRecDepth 100000
set_option maxHeartbeats 1000000
/-! a def called within an except suite, that lets nothing out -/
namespace DL
open PySem PySem.Spec L2 PyProof.Rows
abbrev RoomW := L2H.RoomH
theorem room_suite {k : Nat} {A : Around} {h : Option Value} (r : Room k A) : RoomW k (A.mark h) := ⟨r.dp, r.un⟩
theorem hu65W {k : Nat} {A : Around} (r : RoomW k A) : A.units + 65 < cLine := by
  have := r.un
  omega
/-- the same code around another handled exception, nothing let out -/
abbrev warm (X : Cx) (A : Around) : Cx := { X with A := A, calm := false, xe := fun _ _ => False }
theorem inv_warm {X : Cx} {pins : List (Addr × Obj)} {σ : L2.St} {H : Hp} {s : Shared} {A : Around} (I : Inv X pins σ H s) (h : A.frames = some X.stack) : Inv (warm X A) pins σ H s where
  ok := { I.ok with hd := fun z => (Bool.noConfusion (show false = true from z)), frames := h }
  os := I.os
  bare := I.bare
  base := I.base
  loc := I.loc
  cell := I.cell
  free := I.free
  freeC := I.freeC
  pin := I.pin
  hok := I.hok
  len := I.len
def quiet (A : Around) : Around := { A with handled := none }
theorem env0_quiet {P : Program} {w : World} {K : PySem.W.Frag} {mg : Str → Option Value} {base : Heap} {A : Around} {outer : List Env} {s : Shared} {H : Hp} (e : Env0 P w K mg base A outer s H) : Env0 P w K mg base (quiet A) outer s H :=
  ⟨e.frames, e.mod, e.bs, e.bsz, e.funs, e.frf, e.hok, e.bare⟩
/-- what such a def gives -/
structure FnW (P : Program) (w : World) (K : PySem.W.Frag) (mg : Str → Option Value) (base : Heap) (k : Nat) (f : Addr) (fd : FuncData) (ps : List Str) (sp : Sp) : Prop where
  len : ∀ vs H Q E, sp vs H Q E → vs.length = ps.length
  go : ∀ (A : Around) (outer : List Env) (s : Shared) (H : Hp) (us : List Value) (vs : List V) (Q : VK), RoomW k A → Env0 P w K mg base A outer s H → BindsTo s fd ⟨us, []⟩ (ps.zip us) → Vals vs us → sp vs H Q E0 →
    codeAny (model P w) A (.call (.ref f) ⟨us, []⟩) (fun r s' => ∃ u, r = .ok (.ret u) ∧ CE outer P w H s Q u s') s
section
variable {P : Program} {w : World} {K : PySem.W.Frag} {mg : Str → Option Value} {base : Heap}
abbrev cxW (P : Program) (w : World) (K : PySem.W.Frag) (mg : Str → Option Value) (base : Heap) (N : List Str) (qual : Str) (sc : Scope) (f : Addr) (cdv : Value) (A : Around) (outer : List Env) (s : Shared) (H : Hp) : Cx :=
  warm (cxOf (L2N.CX P w) P w K mg base N qual sc f cdv (quiet A) outer s H E0) (A.deeper (envOfC qual sc s.heap.objs.size f cdv))
theorem flow_end {N : List Str} {qual : Str} {sc : Scope} {f : Addr} {cdv : Value} {A : Around} {outer : List Env} {s : Shared} {H : Hp} {Q : VK} {fl : Flow} {s' : Shared}
    (h : SP (cxW P w K mg base N qual sc f cdv A outer s H) [] { nx := fun _ H' => Q .non H', rt := Q } fl s') : (fl = .next ∧ CE outer P w H s Q .none s') ∨ ∃ u, fl = .ret u ∧ CE outer P w H s Q u s' := by
  cases fl with
  | next => obtain ⟨_, H2, J, q⟩ := h; exact .inl ⟨rfl, .non, H2, J.os, J.bare, J.base, J.hok, rfl, q⟩
  | ret u => obtain ⟨v, _, H2, J, rv, q⟩ := h; exact .inr ⟨u, rfl, v, H2, J.os, J.bare, J.base, J.hok, rv, q⟩
  | brk => obtain ⟨_, _, _, q⟩ := h; exact q.elim
  | cont => obtain ⟨_, _, _, q⟩ := h; exact q.elim
theorem fn_w {x qual : Str} {st : Stmt} {f : Addr} {fd : FuncData} {N ps : List Str} {k : Nat} {sp : Sp} (F : Fun K x qual st f fd) (S : FnScope N ps (defScope st)) (len : ∀ vs H Q E, sp vs H Q E → vs.length = ps.length)
    (hb : ∀ (cdv : Value) (A : Around) (outer : List Env) (s : Shared) (H : Hp) (vs : List V) (Q : VK), RoomW k (A.deeper (envOfC qual (defScope st) s.heap.objs.size f cdv)) → sp vs H Q E0 →
      ∃ t, PSs (cxW P w K mg base N qual (defScope st) f cdv A outer s H) (defBody st) t ∧ t { nx := fun _ H' => Q .non H', rt := Q } (start N vs) H) : FnW P w K mg base (k + 1) f fd ps sp := by
  obtain ⟨oc, od, kV, doc, pm, an, cdv, ct, osl, rfl, lk, hcd⟩ := F.ex
  refine ⟨len, fun A outer s H us vs Q hr e0 bi r hsp => ?_⟩
  have KH : K.In s.heap := e0.mod.kin.keeps fun b o e => (e0.bs b o e).1
  have loc : ∀ y ∈ ps.zip us, (defScope st).names.lookup y.1 = some .local ∨ ((defScope st).names.lookup y.1 = some .cell ∧ ((cellsFrom (s.heap.objs.size + 1) (defScope st).names []).lookup y.1).isSome = true) := fun y hy =>
    (S.par y.1 (List.of_mem_zip hy).1).imp id fun q => ⟨q, PySem.W.cellsFrom_some _ _ _ (.inl q)⟩
  obtain ⟨t, ht, hq⟩ := hb cdv A outer s H vs Q (L2H.RoomH.deeper hr _) hsp
  refine codeAny_call_function hr.depth (KH _ _ lk) rfl S.co S.gen rfl (PySem.W.codeRec_of KH hcd) (bi _ _ _ _ (wpAny_newFunctionEnv_cells S.kind loc fun env he s1 x => ?_))
  subst he
  refine ⟨(e0.mod.nolimit.keeps fun b o e => (e0.bs b o e).1).keeps x.toInCall.keep, codeAny_func ?_⟩
  have I0 := inv_start (CX := L2N.CX P w) (E := E0) S (show (quiet A).handled = none from rfl) (env0_quiet e0) (len _ _ _ _ hsp) r x
  have I1 := inv_warm (A := A.deeper (envOfC qual (defScope st) s.heap.objs.size f cdv)) I0 (Around.frames_deeper e0.frames)
  refine wpAny_mono (ht.run [] s1 _ H _ I1 hq) (fun fl s' hs => ?_) fun _ _ z => z.elim
  rcases flow_end hs with ⟨rfl, c⟩ | ⟨u, rfl, c⟩
  · exact ⟨_, rfl, c⟩
  · exact ⟨_, rfl, c⟩
end
section
variable {X : Cx} {fx : List (Nat × V)} {pos : Pos} {a : Expr}
theorem pe_callW {x : Str} {p : Pos} {e : Expr} {es : List Expr} {t : TA} {k : Nat} {f : Addr} {fd : FuncData} {ps : List Str} {sp : Sp} (G : FnW X.prog X.w X.K X.mg X.base k f fd ps sp) (hr : RoomW k X.A) (hg : Gl X x) (hm : X.mg x = some (.ref f))
    (hk : PySem.W.keepIn X.K (.ref f) = true) (hb : Binds X.K fd ps []) (ha : PA X (e :: es) t) (hdb : (x == ("__debug__" : Str)) = false) (he : starEach (e :: es) X.env = (false, eval e X.env) :: starEach es X.env) (hpl : (backTo pos (starEach es X.env)).any (·.1) = false) :
    PE X (.Call (.Name x p) (e :: es) [] pos) (fun σ H Q => t σ H fun vs H1 => sp vs H1 Q E0) := by
  constructor
  intro pins s σ H Q I h
  have go : ∀ (us : List Value) (s1 : Shared) (vs : List V) (H1 : Hp), Inv X pins σ H1 s1 → Vals vs us → sp vs H1 Q E0 → wpAny (model X.prog X.w) X.A (call (.ref f) us) (EP X pins σ Q) X.xe s1 := by
    intro us s1 vs H1 J r q
    have b := hb s1 us J.kIn (by rw [List.append_nil, ← r.length]; exact G.len _ _ _ _ q)
    rw [List.append_nil] at b
    refine wpAny_call (codeAny_mono (G.go X.A X.stack s1 H1 us vs Q hr J.env0 b r q) fun o s' z => ?_)
    obtain ⟨u, rfl, c⟩ := z
    exact J.after c
  exact wpAny_Call_Name_kw (ld_glob I hg hm (PySem.W.callWith_K (h₀ := X.base) I.ok.mod.kin hk (thn (ha.run pos pins s σ H _ I h) fun us s1 ⟨vs, H1, J, r, q⟩ => ⟨J.kIn, go us s1 vs H1 J r q⟩) he hpl) hdb)
/-- a call within a suite -/
theorem de_callW {x : Str} {p : Pos} {es : List Expr} {fs : List F1} {F : Fn} {k np : Nat} {fa : Addr} {fd : FuncData} {ps : List Str} {m : Option Nat} (G : FnW X.prog X.w X.K X.mg X.base k fa fd ps (spD (rc X) m np F)) (hr : RoomW k X.A) (hg : Gl X x) (hm : X.mg x = some (.ref fa))
    (hk : PySem.W.keepIn X.K (.ref fa) = true) (hb : Binds X.K fd ps []) (ha : DA X fx W0 (a :: es) (eArgs fs)) (hl : fs.length = np := by rfl) (hdb : (x == ("__debug__" : Str)) = false := by decide)
    (he : starEach (a :: es) X.env = (false, eval a X.env) :: starEach es X.env := by rfl) (hpl : (backTo pos (starEach es X.env)).any (·.1) = false := by rfl) : DE X fx W0 (.Call (.Name x p) (a :: es) [] pos) (eCall m F fs) := by
  refine PE.imp (pe_callW G hr hg hm hk hb ha hdb he hpl) fun σ H Q q => ?_
  obtain ⟨e, A, a0, q⟩ := q
  refine ⟨e, A, a0, ((EPost.bnd a0 q).and (P := fun vs => vs.length = np) fun vs t ps e1 ho r => ?_).mono fun vs H1 ⟨⟨e1, A1, qs, x1, r1, h1, _⟩, hz⟩ => ?_⟩
  · exact (SrL.len r).trans ((eArgs_len ho).trans hl)
  have c := call_post (s := ⟨σ, e1, A1, H1⟩) x1.ab r1 h1
  rw [hz] at c
  exact c
end
section
variable {P : Program} {w : World} {K : PySem.W.Frag} {mg : Str → Option Value} {base : Heap}
/-- a def by its data, for suites -/
theorem fn_dataW {x qual : Str} {st : Stmt} {f : Addr} {fd : FuncData} {N ps : List Str} {k : Nat} {B : FS} (F : Fun K x qual st f fd) (S : FnScope N ps (defScope st)) (hN : ps.length ≤ N.length)
    (hb : ∀ (cdv : Value) (A : Around) (outer : List Env) (s : Shared) (H : Hp), RoomW k (A.deeper (envOfC qual (defScope st) s.heap.objs.size f cdv)) → DSs (cxW P w K mg base N qual (defScope st) f cdv A outer s H) [] W0 (defBody st) B) :
    FnW P w K mg base (k + 1) f fd ps (spD ⟨K, mg⟩ none ps.length (fnD none N.length B)) :=
  fn_w F S spD_len fun cdv A outer s H vs Q hr h => by
    obtain ⟨ds, A0, h1, h2, h3, h4⟩ := h
    exact ⟨_, hb cdv A outer s H hr, _, A0, (call_start (by omega) (by omega) h3).1, call_end (by omega) (by omega) h3 h4⟩
end
end DL

set_option Elab.async false
set_option linter.all false
set_option maxRecDepth 100000
set_option maxHeartbeats 1000000
/-! methods of texts -/
namespace DL
open PySem PySem.Spec L2 PyProof.Rows
section
variable {X : Cx} {fx : List (Nat × V)} {W : WX} {pos apos : Pos} {a o : Expr} {f : F1}
/-- a text's method: by the text and the arguments, what it gives -/
def TxD (X : Cx) (fx : List (Nat × V)) (id : String) (g : Str → List D → Option PV) : Prop := ∃ r : V → List V → Hp → VK → Prop, MtR X id r ∧
  ∀ (s : SS) (z : Str) (ds : List D) (ws : List V) (pv : PV) (Q : VK), Sa (rc X) fx s → RepL (rc X) (hid s.A s.H) ds ws → g z ds = some pv →
    (∀ v t, t.e = s.e → St1 (rc X) fx s t → Sr (rc X) t v pv → Fr s.H v pv → Q v t.H) → r (.str z) ws s.H Q
def txO (g : Str → List D → Option PV) (fs : List F1) (e : DEnv) : Option D → EO PV
  | some (.str z) => (eItems fs e).bind fun ds e2 => match g z ds with
    | some pv => .ok pv e2
    | none => .bot
  | _ => .bot
def eTx (g : Str → List D → Option PV) (f : F1) (fs : List F1) : F1 := fun e => (f e).bind fun p e1 => txO g fs e1 (res p e1)
theorem de_tx {name : Str} {id : String} {g : Str → List D → Option PV} {es : List Expr} {fs : List F1} (hm : TxD X fx id g) (slot : Slot "str" name id) (hty : typeOf (.builtin id) = pure (.type "method_descriptor"))
    (ho : DE X fx W o f) (ha : DD X fx W (a :: es) (eItems fs)) (hbase : attributeBase o name X.env (eval o X.env) = eval o X.env := by rfl)
    (hfew : ((backTo pos (starEach (a :: es) X.env)).all (fun x => !x.1) && (backToKw pos (keywordEach [] X.env)).all (fun x => x.1.isSome)
      && decide ((a :: es).length + ([] : List Keyword).length + (if ([] : List Keyword).isEmpty then 0 else 1) < 30)) = true := by rfl)
    (hline : (apos.endLine == pos.line) = true := by rfl) (hs : starEach (a :: es) X.env = (false, eval a X.env) :: starEach es X.env := by rfl) (hplain : (backTo pos (starEach es X.env)).any (·.1) = false := by rfl) :
    DE X fx W (.Call (.Attribute o name apos) (a :: es) [] pos) (eTx g f fs) := by
  obtain ⟨r, hr, hq⟩ := hm
  refine PE.imp (pe_bm PySem.F.plainAttrs_str slot hty hr ho ha hbase hfew hline hs hplain) fun σ H Q q => ?_
  obtain ⟨e, A, a0, q⟩ := q
  refine ⟨e, A, a0, (EPost.bnd a0 q).mono fun x H1 ⟨e1, A1, p, x1, r1, h1, _⟩ => ?_⟩
  cases hp : res p e1 with
  | none => rw [hp] at h1; exact h1.elim
  | some d =>
    rw [hp] at h1
    cases d with
    | str z =>
      obtain rfl : x = .str z := Sr.val x1.ab r1.1 hp
      refine ⟨rfl, e1, A1, x1.ab, (EPost.bnd x1.ab h1).mono fun ws H2 ⟨e2, A2, ds, x2, r2, h2, _⟩ => ?_⟩
      cases hg : g z ds with
      | none => simp only [hg] at h2; exact h2.elim
      | some pv =>
        simp only [hg] at h2
        exact hq ⟨σ, e2, A2, H2⟩ z ds ws pv Q x2.ab r2 hg fun v t et st sr fr => h2 v t et st ⟨sr, fr⟩
    | _ => exact h1.elim
def stwD (z : Str) : List D → Option PV
  | [.str y] => some (.dat (.bl (Txt.startswith z y)))
  | _ => none
theorem td_startswith : TxD X fx "str.startswith" stwD := by
  refine ⟨_, mt_startswith, ?_⟩
  intro s z ds ws pv Q a r e k
  unfold stwD at e
  split at e <;> cases e
  obtain ⟨v, _, rfl, h, h0⟩ := r
  cases (show _ = _ from h0)
  cases (show v = .str _ from h)
  exact ⟨_, _, rfl, rfl, keep_dat a k rfl⟩
def parD (z : Str) : List D → Option PV
  | [.str y] => if (y.length == 0) = false ∧ z.length ≤ 1000000 then some (.dat (.tup [.str (Txt.partition z y).1, .str (Txt.partition z y).2.1, .str (Txt.partition z y).2.2])) else none
  | _ => none
theorem RepL.strs {R : RC} {H : Hp} : ∀ ys : List Str, RepL R H (ys.map D.str) (ys.map V.str)
  | [] => rfl
  | y :: ys => ⟨.str y, _, rfl, rfl, RepL.strs ys⟩
theorem td_partition : TxD X fx "str.partition" parD := by
  refine ⟨_, mt_partition, ?_⟩
  intro s z ds ws pv Q a r e k
  unfold parD at e
  split at e
  · split at e <;> cases e
    rename_i hz
    obtain ⟨v, _, rfl, h, h0⟩ := r
    cases (show _ = _ from h0)
    cases (show v = .str _ from h)
    exact ⟨_, _, rfl, rfl, hz.1, szle hz.2, fun l hl => k (.ref l) (s.lay l _) rfl (.lay a hl) (Sr.tup a hl (RepL.strs [_, _, _])) trivial⟩
  · cases e
end
/-! ### texts as lists of signs -/
abbrev S (l : List Nat) : Str := SX.S l
abbrev asc (l : List Nat) : Bool := l.all (· < 128)
theorem okS {l : List Nat} (h : asc l = true) : PyData.strOk (S l) = true := by
  unfold PyData.strOk
  rw [← Array.all_toList, List.all_eq_true]
  intro c hc
  have := List.all_eq_true.mp h c hc
  simp only [decide_eq_true_eq] at this ⊢
  omega
theorem shpS {l : List Nat} (h : asc l = true) : shp (.str (S l)) = true := shp_flt (by simp [flt, okPy, okS h])
theorem lenS {l : List Nat} (h : l.length ≤ 1000000) : lenD [.str (S l)] = some (.dat (.int l.length)) := by
  show (if (SX.S l).length ≤ 1000000 then iD ((SX.S l).length : Int) else none) = _
  rw [SX.S_len, if_pos h]
  rfl
theorem ixS {c : Nat} {l : List Nat} (h : (c :: l).length ≤ 1000000) : ixD (.str (S (c :: l))) (.int 0) = some (.dat (.str (S [c]))) := by
  show (if (SX.S (c :: l)).length ≤ 1000000 then (atI (SX.S (c :: l)).cps.toList 0).map fun c => PV.dat (.str (oneS c)) else none) = _
  rw [SX.S_len, if_pos h]
  have : atI (SX.S (c :: l)).cps.toList 0 = some c := by
    unfold atI ixN
    simp
  rw [this]
  rfl
theorem signsS (l : List Nat) : signs (S l) = l.map fun c => .str (S [c]) := rfl
theorem eqS {a b : List Nat} (ha : asc a = true) (hb : asc b = true) : eqD (.str (S a)) (.str (S b)) = some (.dat (.bl (decide (a = b)))) := by
  rw [d_eq _ _ (shpS ha) (shpS hb), q_str, SX.S_beq_eq]
theorem ninS (c : Nat) (b : List Nat) : ninD (.str (S [c])) (.str (S b)) = some (.dat (.bl (!decide (c ∈ b)))) := by
  unfold ninD inB
  simp
  rfl
section
variable {X : Cx} {fx : List (Nat × V)} {W : WX} {pos : Pos}
/-- a text many times, both in the program's text -/
theorem op_many {z y : Str} {n : Int} (h1 : ¬ n < 1) (h2 : (n == 1 || z.length == 0) = false) (h3 : (decide (n < -(2 ^ 63 : Int)) || decide (n ≥ 2 ^ 63)) = false) (h4 : ¬ ((z.length : Int) > (2 ^ 63 - 1) / n)) (h5 : Builtin.Str.tooLong (z.length * n.toNat) = false)
    (h6 : (⟨(List.replicate n.toNat z.cps).foldl (· ++ ·) #[]⟩ : Str) = y) (h7 : y.length ≤ sizeLine) : OpR X (binaryOp .Mult) (fun a b H Q => a = .str z ∧ b = .int n ∧ Q (.str y) H) := by
  intro pins s σ H a b v u Q I ra rb h
  obtain ⟨rfl, rfl, q⟩ := h
  obtain ⟨t, rfl⟩ := ra
  obtain ⟨t', rfl⟩ := rb
  refine P.mul_str h3 (fun _ _ => h4) (fun _ _ => h5) ?_
  rw [if_neg h1, h2, if_neg (by decide), h6]
  exact ⟨h7, .str y, H, I.tok _, ⟨_, rfl⟩, q⟩
theorem de_many {z y : Str} {n : Int} {p1 p2 : Pos} (h1 : ¬ n < 1) (h2 : (n == 1 || z.length == 0) = false) (h3 : (decide (n < -(2 ^ 63 : Int)) || decide (n ≥ 2 ^ 63)) = false) (h4 : ¬ ((z.length : Int) > (2 ^ 63 - 1) / n)) (h5 : Builtin.Str.tooLong (z.length * n.toNat) = false)
    (h6 : (⟨(List.replicate n.toNat z.cps).foldl (· ++ ·) #[]⟩ : Str) = y) (h7 : y.length ≤ sizeLine) : DE X fx W (.BinOp (.Constant (.str z) j1 p1) .Mult (.Constant (.int n) j2 p2) pos) (eC (.str y)) := by
  refine PE.imp (pe_op (op_many h1 h2 h3 h4 h5 h6 h7) pe_str pe_int) fun σ H Q h => ?_
  obtain ⟨e, A, a0, h⟩ := h
  exact ⟨rfl, rfl, h (.str y) _ rfl (.refl a0) ⟨rfl, trivial⟩⟩
end
/-! ### where a bool stands first in a list of bools -/
def boolsOf : List D → Option (List Bool)
  | [] => some []
  | .bl b :: ds => (boolsOf ds).map (b :: ·)
  | _ => none
theorem boolsOf_rep {R : RC} {H : Hp} : ∀ {ds : List D} {bs : List Bool} {vs : List V}, boolsOf ds = some bs → RepL R H ds vs → vs = bs.map V.bl
  | [], bs, vs, h, r => by cases h; exact r
  | d :: ds, bs, vs, h, r => by
    obtain ⟨v, ws, rfl, h1, h2⟩ := r
    cases d with
    | bl b =>
      unfold boolsOf at h
      cases hb : boolsOf ds with
      | none => rw [hb] at h; cases h
      | some cs =>
        rw [hb] at h
        cases h
        rw [boolsOf_rep hb h2]
        cases (show v = .bl b from h1)
        rfl
    | _ => cases h
def idxD (xs : List D) : List D → Option (D × List D)
  | [.bl b] => match boolsOf xs with
    | some bs => if b ∈ bs then some (.int (bs.idxOf b : Nat), xs) else none
    | none => none
  | _ => none
theorem first_ne {b c : Bool} : ∀ {bs : List Bool} {m : Nat}, m < bs.idxOf b → bs[m]? = some c → c ≠ b
  | [], m, h, q => by simp at q
  | x :: xs, m, h, q => by
    rw [List.idxOf_cons] at h
    by_cases hx : x = b
    · subst hx
      simp at h
    · have hx' : (x == b) = false := by simpa using hx
      rw [hx', cond_false] at h
      cases m with
      | zero =>
        simp at q
        rw [← q]
        exact hx
      | succ m =>
        rw [List.getElem?_cons_succ] at q
        exact first_ne (by omega) q
theorem md_index {X : Cx} : MetD X "list.index" idxD := by
  refine ⟨_, mt_index, ?_⟩
  intro h H l xs ds ys vs ws d Q hle hl rx rw' hg k
  unfold idxD at hg
  split at hg
  · rename_i b
    split at hg
    · rename_i bs hb
      split at hg <;> cases hg
      rename_i hm
      obtain ⟨v, _, rfl, p, h0⟩ := rw'
      cases (show _ = _ from h0)
      cases (show v = .bl b from p)
      have e := boolsOf_rep hb rx
      have hj : bs.idxOf b < bs.length := List.idxOf_lt_length_iff.mpr hm
      have same : upd H l (.lst vs) = H := by
        funext c
        by_cases hc : c = l
        · rw [hc, upd_same, hl]
        · rw [upd_ne hc]
      have q := k (.int (bs.idxOf b : Nat)) vs rfl rx
      rw [same] at q
      refine ⟨l, vs, .bl b, bs.idxOf b, .bl b, rfl, rfl, ?_, rfl, ?_, ?_, ?_, ?_, q⟩
      · exact .inl (.inl hl)
      · rw [e]; simp [flatV]
      · rw [e, List.getElem?_map, List.getElem?_eq_getElem hj, List.getElem_idxOf]
        rfl
      · simp [eqV]
      · intro m z' hm' hz
        rw [e, List.getElem?_map] at hz
        cases hbm : bs[m]? with
        | none => rw [hbm] at hz; cases hz
        | some c =>
          rw [hbm] at hz
          cases hz
          have : c ≠ b := first_ne hm' hbm
          simp [eqV, this]
    · cases hg
  · cases hg
end DL

set_option Elab.async false
set_option linter.all false
set_option maxRecDepth 100000
set_option maxHeartbeats 1000000
/-! a method called with nothing handed in -/
namespace DL
open PySem PySem.Spec L2 PyProof.Rows
section
variable {X : Cx} {fx : List (Nat × V)} {W : WX} {pos : Pos} {a b : Expr} {f g : F1}
/-- what the object's class tells of it -/
theorem de_mth0 {m : Str} {apos : Pos} {tbl : List (Str × Fn)} {pl : Sem Bool} (hT : ∀ cn F, tbl.lookup cn = some F → MthOk X m cn 1 F) (ho : DE X fx W b f)
    (ht : eval (.Call (.Attribute b m apos) [] [] pos) X.env = (do
      let ov ← eval b X.env
      standAt apos.atName
      let (f, first) ← holding [ov] (getMethod ov m pl)
      callWith pos f first (backTo pos (starEach [] X.env)) (backToKw pos (keywordEach [] X.env))) := by rfl) :
    DE X fx W (.Call (.Attribute b m apos) [] [] pos) (eMth m tbl f []) := by
  constructor
  rintro pins s σ H Q I ⟨e, A, a0, q⟩
  unfold eMth at q
  have dead : ∀ o : EO PV, (∀ c ns ds e1, o ≠ .ok (.dat (.ins c ns ds)) e1) → f e = o → False := fun o no ho => by
    rw [ho] at q
    cases o with
    | ok p e1 =>
      cases p with
      | dat d =>
        cases d with
        | ins c ns ds => exact no c ns ds e1 rfl
        | _ => exact q
      | _ => exact q
    | _ => exact q
  by_cases hx : ∃ c ns ds e1, f e = .ok (.dat (.ins c ns ds)) e1
  · obtain ⟨c', ns, ds, e1, hf⟩ := hx
    rw [hf] at q
    dsimp only at q
    cases hF : tbl.lookup c' with
    | none => rw [hF] at q; exact q.elim
    | some F =>
      rw [hF] at q
      dsimp only at q
      by_cases hn : ns.contains m = false
      · rw [if_pos hn] at q
        obtain ⟨C, fa, fd, ps, k, m1, cl, me, G, hr, bi⟩ := (hT _ _ hF).ex
        have rule := pe_meth0 (pl := pl) (E := fun _ _ _ => False) ho cl me G hr bi .nil (pass_none fun _ _ _ h => h) ht
        apply rule.run pins s σ H Q I
        refine ⟨e, A, a0, ?_⟩
        rw [hf]
        rintro v ⟨σ', e', A', H'⟩ et st ⟨r, _⟩
        obtain ⟨y, C', dx, vs, rfl, n1, n2, n3, n4⟩ := (show Rep (rc X) (hid A' H') (.ins c' ns ds) v from r)
        obtain rfl : C = C' := Value.ref.inj (Option.some.inj (m1.symm.trans n1))
        obtain rfl : σ' = σ := st.eq
        obtain rfl : e' = e1 := et
        refine ⟨y, dx, _, rfl, (hid_some.mp n2).2, zip_none hn, ?_⟩
        have q2 := EPost.later a0 st q
        have r0 : SrL (rc X) ⟨σ', e', A', H'⟩ [.ref y] [.dat (.ins c' ns ds)] := ⟨r, trivial⟩
        have z := call_post (W := fun _ _ _ _ => False) (s := ⟨σ', e', A', H'⟩) st.ab r0 (noX_post q2)
        exact z
      · rw [if_neg hn] at q
        exact q.elim
  · exact (dead _ (fun c ns ds e1 z => hx ⟨c, ns, ds, e1, z⟩) rfl).elim
end
end DL

set_option Elab.async false
set_option linter.all false
set_option maxRecDepth 100000
set_option maxHeartbeats 1000000
/-! a list that is read, so many times -/
namespace DL
open PySem PySem.Spec L2 PyProof.Rows
theorem Vals.many {xs : List V} {us : List Value} (h : Vals xs us) : ∀ k : Nat, Vals (List.replicate k xs).flatten (List.replicate k us).flatten
  | 0 => Paired.nil
  | k + 1 => by
    rw [List.replicate_succ, List.replicate_succ, List.flatten_cons, List.flatten_cons]
    exact h.append (Vals.many h k)
theorem RepL.many {R : RC} {H : Hp} {ds : List D} {vs : List V} (h : RepL R H ds vs) : ∀ k : Nat, RepL R H (List.replicate k ds).flatten (List.replicate k vs).flatten
  | 0 => rfl
  | k + 1 => by
    rw [List.replicate_succ, List.replicate_succ, List.flatten_cons, List.flatten_cons]
    exact h.app (RepL.many h k)
def rManyR (K : PySem.W.Frag) : R2 := fun x y H Q => ∃ l k xs, x = .ref l ∧ y = .int k ∧ LsR K H l xs ∧ -1000000 ≤ k ∧ k ≤ 1000000 ∧ xs.length * k.toNat ≤ 1000000 ∧ ∀ p, H p = none → Q (.ref p) (upd H p (.lst (List.replicate k.toNat xs).flatten))
section
variable {X : Cx} {fx : List (Nat × V)} {W : WX} {pos : Pos}
/-- what the builtin leaves of the items -/
theorem many_items (us : List Value) (k : Nat) : List.foldl (fun x1 x2 => x1 ++ x2) #[] (List.replicate (if us.toArray.isEmpty = true then 0 else k) us.toArray) = (List.replicate k us).flatten.toArray := by
  have z := listMul_foldl_if us.toArray k
  simpa using z
theorem op_manyL : OpR X (binaryOp .Mult) (rManyR X.K) := fun pins s σ H x y v u Q I rx ry ⟨l, k, xs, ex, ey, rl, lo, hi, few, q⟩ => by
  subst ex ey
  obtain rfl : v = Value.ref l := rx
  obtain ⟨t, rfl⟩ : ∃ t, u = Value.int k t := ry
  have ⟨_, us, n, vu, lu, eu⟩ := Inv.lstR I rl
  have room : us.length * k.toNat ≤ 1000000 := by rw [← lu]; exact few
  have isl : s.TypeIs (.ref l) "list" := ⟨_, eu, rfl⟩
  have fit : ¬ (!Builtin.List.listFitsIndex k) = true := by simp [Builtin.List.listFitsIndex]; omega
  have cap : ¬ us.toArray.size * k.toNat > (2 ^ 63 - 1) / 8 := by rw [List.size_toArray]; omega
  have long : ¬ Builtin.List.listTooLong (us.toArray.size * k.toNat) = true := by
    rw [List.size_toArray]
    simp [Builtin.List.listTooLong, sizeLine]
    omega
  have J : Inv X pins σ (upd H s.heap.objs.size (.lst (List.replicate k.toNat xs).flatten)) _ := I.lnew (t' := s.toks) (Vals.many vu k.toNat) (by
    rw [lm_len_rep_flat, Nat.mul_comm]
    exact szle few)
  have made := AutoListH.list___mul___list_int_3 l us.toArray n k t fit cap long
  have other := int___rmul___int_list k t l us.toArray n
  have one := call_meets (prog := X.prog) (w := X.w) (A := X.A) (E := X.xe) (s := s) (Q := fun r s' => ∃ v' H', Inv X pins σ H' s' ∧ RelV v' r ∧ Q v' H') F.slot_list_mul isl F.entry_list_mul (F.args_list_mul_2 _ _) made ⟨eu, by
    rw [many_items]
    exact ⟨.ref s.heap.objs.size, _, J, rfl, q _ I.fresh⟩⟩
  refine wpAny_binaryOp_repeat_ref (by decide) isl (fun _ => typeIs_int _ _ _) noFill_list_mul F.fills_int_mul F.slot_int_rmul repeat_list F.slot_int_index.lookup ?_
  exact call_meets F.slot_int_rmul (typeIs_int _ _ _) F.entry_int_rmul (F.args_int_rmul_2 _ _) other ⟨eu, rfl, isl, one⟩
def repD : D → D → Option PV
  | .lst xs, .int k => if -1000000 ≤ k ∧ k ≤ 1000000 ∧ xs.length * k.toNat ≤ 1000000 then some (.fresh (.lst (List.replicate k.toNat xs).flatten)) else none
  | _, _ => none
theorem od_manyL : OpD X fx (binaryOp .Mult) repD := by
  refine ⟨_, op_manyL, ?_⟩
  intro s x y d1 d2 pv Q a rx ry e k
  unfold repD at e
  split at e
  · split at e <;> cases e
    rename_i n hz
    obtain ⟨p, vs, rfl, h1, h2⟩ := RepV.ref_lst rx
    refine ⟨p, n, vs, rfl, ry, h1, hz.1, hz.2.1, by rw [RepL.length h2]; exact hz.2.2, fun l hl => ?_⟩
    exact k (.ref l) (s.layO l _) rfl (.layO a hl) (Sr.lst a hl (RepL.many h2 _)) fun l' e => by cases e; exact hl
  · cases e
end
def reps (xs : List D) (k : Nat) : List D := (List.replicate k xs).flatten
theorem k_reps (xs : List D) (k : Nat) (h : k ≤ 1000000) (h2 : xs.length * k ≤ 1000000) : repD (.lst xs) (.int (k : Int)) = some (.fresh (.lst (reps xs k))) := if_pos ⟨by omega, by omega, by rw [Int.toNat_natCast]; exact h2⟩
end DL

set_option Elab.async false
set_option linter.all false
set_option maxRecDepth 100000
set_option maxHeartbeats 1000000
/-! xs[a:] = ys -/
namespace LSl
open PySem PySem.Spec PyProof.Rows L2 HT
section
variable {prog : Program} {w : World} {A : Around} {E : Value → Shared → Prop} {s : Shared}
theorem bounds_open {a n : Nat} (ha : a ≤ n) : sliceBounds (some (a : Int)) none none n = ((a : Int), (n : Int), 1) := by
  simp only [sliceBounds, Option.getD_none]
  have h1 : ¬ ((a : Int) < 0) := by omega
  simp only [h1, if_false, show (1 : Int) > 0 by decide, if_true]
  congr 1
  omega
theorem store_open {l b sl : Addr} {its new : Array Value} {n n2 : Nat} {vl vu : Value} {a : Nat} {Q : Unit → Shared → Prop}
    (e : s.heap.get? l = some { cls := .type "list", data := .seq its n }) (e2 : s.heap.get? b = some { cls := .type "list", data := .seq new n2 }) (ne : l ≠ b) (hs : s.heap.IsSliceOf sl vl vu .none) (pl : IsPart vl (some (a : Int))) (pu : IsPart vu none) (ha : a ≤ its.size)
    (hz : its.size + new.size ≤ sizeLine) (q : Q () { s with heap := s.heap.update l (Obj.mapSeq fun xs => xs.extract 0 a ++ new ++ xs.extract its.size xs.size) }) : wpAny (model prog w) A (setItem (.ref l) (.ref sl) (.ref b)) Q E s := by
  have hl : s.heap.IsList l its := PySem.IsL.isList e
  have hb : s.heap.IsList b new := PySem.IsL.isList e2
  obtain ⟨os, g, hc, hd⟩ := id hs
  have ty : s.TypeIs (.ref sl) "slice" := ⟨os, g, hc⟩
  have same : Builtin.List.listSameRef (.ref l) (.ref b) = false := beq_eq_false_iff_ne.mpr ne
  have big : ((fun xs : Array Value => xs.extract 0 a ++ new ++ xs.extract its.size xs.size) its).size ≤ sizeLine + 1 := by
    simp only [Array.size_append, Array.size_extract]
    omega
  unfold setItem
  try with_reducible refine wpAny_holding ?_
  first | refine wpAny_bind (wpAny_pure ?_) | skip
  refine wpAny_bind (wpAny_sequenceKey hl.typeIs (by decide) ?_)
  refine wpAny_bind (wpAny_callSpecial?_slot (name := Str.ofString "__setitem__") hl.typeIs slot_list_setitem (wpAny_call_entry slot_list_setitem hl.typeIs entry_list_setitem ?_ (args_list_setitem _ _ _)))
  show wpAny _ _ (Builtin.List.listSubscript? (.ref sl) >>= _) _ _ s
  unfold Builtin.List.listSubscript?
  refine wpAny_bind (wpAny_bind (wpAny_specialOf ty slice_no_index ?_))
  simp only [Option.isNone_none, if_true]
  refine wpAny_pure ?_
  show wpAny _ _ (typeOf (.ref sl) >>= _) _ _ s
  refine wpAny_bind (wpAny_typeOf ty ?_)
  first
    | rw [if_neg (by decide)]
    | refine PySem.W.KFB.if_not (by decide) ?_
  rw [listSliceParts_eq]
  refine wpAny_bind (wpAny_bind (wpAny_field g hd (x := .none) rfl (wpAny_bind (wpAny_listPart .none ?_))))
  rw [if_neg (show ¬ ((rawPart none == rawInt 0) = true) from Bool.false_ne_true)]
  refine wpAny_bind (wpAny_field g hd (x := vl) rfl (wpAny_bind (wpAny_listPart pl ?_)))
  refine wpAny_bind (wpAny_field g hd (x := vu) rfl (wpAny_bind (wpAny_listPart pu (wpAny_pure ?_))))
  first
    | simp only [same, Bool.false_eq_true, if_false]
    | refine PySem.W.KFB.if_not same ?_
  refine wpAny_bind (m := Builtin.List.listAllItems (.ref b) "must assign iterable to extended slice") ?_
  unfold Builtin.List.listAllItems
  refine wpAny_bind (wpAny_typeOf hb.typeIs ?_)
  first
    | refine PySem.W.KFB.if_so (by decide) ?_
    | rw [if_pos (by decide)]
    | simp only [beq_self_eq_true, Bool.true_or, if_true]
  unfold Builtin.List.listItems
  refine wpAny_bind (wpAny_seqItems e2 rfl (wpAny_pure ?_))
  refine wpAny_bind (wpAny_bind (wpAny_seqItems e rfl (wpAny_pure ?_)))
  refine wpAny_bind (wpAny_of_eq ((sliceIndices_raw (some (a : Int)) none none its.size (by simp)).trans (congrArg (pure : Int × Int × Int → Sem (Int × Int × Int)) (bounds_open ha))) ?_)
  show wpAny _ _ (if ((1 : Int) == 1) = true then _ else _) _ _ s
  rw [if_pos (by decide)]
  refine wpAny_bind (wpAny_rule ?_)
  first
    | simp only [notLongL hz, Bool.false_eq_true, if_false]
    | refine PySem.W.KFB.if_not (notLongL hz) ?_
  first | refine wpAny_bind (wpAny_pure ?_) | skip
  show wpAny _ _ (updateSeq l (fun xs => xs.extract 0 ((a : Int)).toNat ++ new ++ xs.extract (max (a : Int) (its.size : Int)).toNat xs.size) >>= _) _ _ s
  rw [show (max (a : Int) (its.size : Int)).toNat = its.size by omega, Int.toNat_natCast]
  refine wpAny_bind (wpAny_updateSeq (hz := Nat.le_trans (Nat.le_add_right _ _) hz) (_hz' := big) e rfl ?_)
  refine wpAny_bind (wpAny_letGo ?_)
  first
    | exact wpAny_bind (wpAny_pure (wpAny_pure ⟨.none, rfl, wpAny_pure q⟩))
    | exact wpAny_pure ⟨.none, rfl, wpAny_pure q⟩
end
/-- the slice object at p, by its ends -/
def IsSl (lo hi : Option Int) (p : Addr) : Heap → Prop := fun h => ∃ vl vu, h.IsSliceOf p vl vu .none ∧ IsPart vl lo ∧ IsPart vu hi
section
variable {X : Cx}
theorem pe_sl {lo hi : Option Expr} {tl th : TO} {p2 : Pos} (hl : PO X lo tl) (hu : PO X hi th) : PE X (.Slice lo hi none p2) (fun σ H Q => tl σ H fun l H1 => th σ H1 fun u H2 => ∀ p, H2 p = none → Q (.ref p) (upd H2 p (.ext (IsSl l u p)))) := by
  refine ⟨fun pins s σ H Q I h => ?_⟩
  refine wpAny_Slice (thn (hl.run pins s σ H _ I h) fun vl s2 ⟨l, H2, I2, pl, q2⟩ => thn (hu.run pins s2 σ H2 _ I2 q2) fun vu s3 ⟨u, H3, I3, pu, q3⟩ => ?_)
  rw [evalPart_none]
  refine wpAny_pure ?_
  have new : Heap.IsSliceOf (s3.heap.push { cls := .type "slice", data := .fields #[vl, vu, .none] }) s3.heap.objs.size vl vu .none := Heap.IsSliceOf.new ..
  have I4 : Inv X pins σ (upd H3 s3.heap.objs.size (.ext (IsSl l u s3.heap.objs.size))) { s3 with heap := s3.heap.push { cls := .type "slice", data := .fields #[vl, vu, .none] } } :=
    I3.laid (t' := s3.toks) (o := .ext (IsSl l u s3.heap.objs.size)) (fun b ob q => Heap.get?_push_of_some _ q) (Nat.le_refl _) ⟨⟨vl, vu, new, pl, pu⟩, ⟨_, Heap.get?_push_size _ rfl⟩, fun h h' ⟨a, b, ⟨o, g, r⟩, c⟩ k => ⟨a, b, ⟨o, k o g, r⟩, c⟩⟩
  exact ⟨.ref s3.heap.objs.size, _, I4, rfl, q3 _ (I3.hok.fresh (Nat.le_refl _))⟩
theorem set_open : PSet X (fun o i v H Q => ∃ (l p b : Addr) (xs ys : List V) (a : Nat), o = .ref l ∧ i = .ref p ∧ v = .ref b ∧ H l = some (.lst xs) ∧ H p = some (.ext (IsSl (some (a : Int)) none p)) ∧ H b = some (.lst ys) ∧ l ≠ b ∧ a ≤ xs.length ∧ xs.length + ys.length ≤ sizeLine ∧ Q (upd H l (.lst (xs.take a ++ ys)))) := by
  intro pins s σ H o i v ov iv u Q I r1 r2 r3 h
  obtain ⟨l, p, b, xs, ys, a, rfl, rfl, rfl, hl, hp, hb, ne, ha, hz, q⟩ := h
  obtain rfl : ov = Value.ref l := r1
  obtain rfl : iv = Value.ref p := r2
  obtain rfl : u = Value.ref b := r3
  obtain ⟨z, its, n, r, hln, e⟩ := I.lstM hl
  obtain ⟨z2, its2, n2, r', hln2, e2⟩ := I.lstM hb
  obtain ⟨vl, vu, sl, pl, pu⟩ := (I.hok p _ hp).1
  refine store_open e e2 ne sl pl pu (by rw [List.size_toArray]; omega) (by rw [List.size_toArray, List.size_toArray]; omega) ⟨_, ?_, q⟩
  refine I.lset (its' := its.take a ++ its2) (t' := s.toks) hl e ?_ (Vals.append (r.take _) r') ?_
  · apply Array.toList_inj.mp
    simp
  · rw [List.length_append, List.length_take]
    omega
end
theorem pg_subS {X : Cx} {o : Expr} {lo hi : Option Expr} {p3 pos : Pos} {to ti : TE} {t : TSet} (ho : PE X o to) (hsl : PE X (.Slice lo hi none p3) ti) (hs : PSet X t) : PG X (.Subscript o (.Slice lo hi none p3) pos) (gSub to ti t) := by
  refine ⟨fun pins s σ H v u Q I r h => ?_⟩
  rw [PySem.arm_assign_Subscript]
  refine wpAny_bind (wpAny_holding (thn (ho.run pins s σ H _ I h) fun ov s1 z => ?_))
  obtain ⟨x, H1, I1, r1, q1⟩ := z
  refine wpAny_bind (wpAny_holding (thn (hsl.run pins s1 σ H1 _ I1 q1) fun iv s2 z => ?_))
  obtain ⟨y, H2, I2, r2, q2⟩ := z
  refine wpAny_bind (wpAny_standAt (wpAny_bind (wpAny_holding (thn (hs pins s2 σ H2 x y v ov iv u _ I2 r1 r2 r q2) fun _ s3 z => ?_))))
  obtain ⟨H3, I3, q3⟩ := z
  exact wpAny_release ⟨σ, H3, I3, q3⟩
end LSl

namespace DL
open PySem PySem.Spec L2
section
variable {X : Cx} {fx : List (Nat × V)} {W : WX} {pos : Pos}
/-- x[a:] = a list just made -/
def slP (i : Nat) (ys : List D) (q : PV) (e : DEnv) : SO := match q, e[i]? with
  | .dat (.int k), some (.own (.lst xs)) => if 0 ≤ k ∧ k ≤ xs.length ∧ xs.length + ys.length ≤ 1000000 then .nx (e.set i (.own (.lst (xs.take k.toNat ++ ys)))) else .bot
  | _, _ => .bot
def slV (i : Nat) (fi : F1) (p : PV) (e : DEnv) : SO := match p, e[i]? with
  | .fresh (.lst ys), some (.own (.lst _)) => (fi e).bindS (slP i ys)
  | _, _ => .bot
def sSl (i : Nat) (fi fv : F1) : FS := fun e => (fv e).bindS (slV i fi)
theorem ds_sl {i : Nat} {x : Str} {ie ve : Expr} {p1 p2 p3 : Pos} {fi fv : F1} (hN : X.N[i]? = some x) (hv : Vis X.env.scope x) (hi : DE X fx W ie fi) (hve : DE X fx W ve fv)
    (hs : swapsWithSole [.Subscript (.Name x p1) (.Slice (some ie) none none p3) p2] ve pos.line X.env = pure false := by rfl) (hw : swappedStores [.Subscript (.Name x p1) (.Slice (some ie) none none p3) p2] ve X.env = pure none := by rfl)
    (h1 : (assignEach [.Subscript (.Name x p1) (.Slice (some ie) none none p3) p2] X.env).map (·.2) = [assign (.Subscript (.Name x p1) (.Slice (some ie) none none p3) p2) X.env] := by rfl) (hd : (x == ("__debug__" : Str)) = false := by decide) (hcd : (x == ("__classdict__" : Str)) = false := by decide) :
    DS X fx W (.Assign [.Subscript (.Name x p1) (.Slice (some ie) none none p3) p2] ve pos) (sSl i fi fv) := PS.imp (ps_asg hve (LSl.pg_subS (pe_var hN hv hd hcd) (LSl.pe_sl (po_some hi) po_none) LSl.set_open) hs hw h1) fun D σ H q => by
  obtain ⟨e, A, a0, q⟩ := q
  refine ⟨e, A, a0, (SPost.bnd a0 q).mono fun v H1 ⟨e1, A1, p, x1, r1, h1, h0⟩ => ?_⟩
  clear h0
  unfold slV at h1
  split at h1
  · rename_i ys xs0 he
    obtain ⟨b, hb, rfl, fA, fO, fH, fr⟩ := r1.1
    obtain ⟨ws, rfl, fw⟩ := fr
    obtain ⟨l, ho, q1, l1, l2, _⟩ := x1.ab.own i _ he
    refine ⟨.ref l, q1, e1, A1, x1.ab, (SPost.bnd x1.ab h1).mono fun y H3 ⟨e3, A3, q3, x3, r3, h3, h0⟩ => ?_⟩
    clear h0
    unfold slP at h3
    split at h3
    · rename_i k xs he3
      split at h3
      · rename_i hk
        obtain ⟨a, rfl⟩ := Int.eq_ofNat_of_zero_le hk.1
        obtain ⟨l', ho', z1, z2, z3, vs, rfl, z4⟩ := x3.ab.own i _ he3
        rw [q1] at z1
        cases z1
        have b3 : H3 b = some (.lst ws) := x3.nx.keep b _ fO fH
        have fw3 := RepL.le (x3.nx.hid x1.ab) _ _ fw
        have bl : b ≠ l := fun z => fO ⟨i, _, he, z ▸ q1⟩
        refine ⟨(a : Int), r3.1, fun p hp => ?_⟩
        have y1 : St1 (rc X) fx ⟨σ, e3, A3, H3⟩ (SS.lay ⟨σ, e3, A3, H3⟩ p (.ext (LSl.IsSl (some (a : Int)) none p))) := .lay x3.ab hp
        have pl : l ≠ p := ne_of_none z3 hp
        have pb : b ≠ p := ne_of_none b3 hp
        have le := lay_hid (s := ⟨σ, e3, A3, H3⟩) (ho := .ext (LSl.IsSl (some (a : Int)) none p)) hp
        have e4 : OwnR (rc X) (hid A3 (upd H3 p (.ext (LSl.IsSl (some (a : Int)) none p)))) (.lst (xs.take a ++ ys)) (.lst (vs.take a ++ ws)) := ⟨_, rfl, RepL.app (RepL.take a (RepL.le le _ _ z4)) (RepL.le le _ _ fw3)⟩
        have st := own_upd (ho' := .lst (vs.take a ++ ws)) (d' := .lst (xs.take a ++ ys)) y1.ab he3 q1 e4
        have len := RepL.length z4
        have len2 := RepL.length fw3
        exact ⟨l, p, b, vs, ws, a, rfl, rfl, rfl, (upd_ne pl).trans z3, upd_same, (upd_ne pb).trans b3, Ne.symm bl, by omega, by rw [sizeLine_eq]; omega, h3 ⟨σ, _, A3, _⟩ rfl (y1.st2.trans x3.ab st.st2)⟩
      · exact h3.elim
    · exact h3.elim
  · exact h1.elim
end
section
variable {e : DEnv} {fi fv : F1}
theorem k_sSl (i : Nat) : sSl i fi fv e = (fv e).bindS (slV i fi) := rfl
def slVO (i : Nat) (fi : F1) (ys : List D) (e : DEnv) : Option Cell → SO
  | some (.own (.lst _)) => (fi e).bindS (slP i ys)
  | _ => .bot
def slPO (i : Nat) (ys : List D) (k : Int) (e : DEnv) : Option Cell → SO
  | some (.own (.lst xs)) => if 0 ≤ k ∧ k ≤ xs.length ∧ xs.length + ys.length ≤ 1000000 then .nx (e.set i (.own (.lst (xs.take k.toNat ++ ys)))) else .bot
  | _ => .bot
theorem k_slV (i : Nat) (ys : List D) : slV i fi (.fresh (.lst ys)) e = slVO i fi ys e e[i]? := by
  unfold slV slVO
  cases e[i]? with
  | none => rfl
  | some c =>
    cases c with
    | own d => cases d <;> rfl
    | _ => rfl
theorem k_slVO (i : Nat) (ys xs : List D) : slVO i fi ys e (some (.own (.lst xs))) = (fi e).bindS (slP i ys) := rfl
theorem k_slP (i : Nat) (ys : List D) (k : Int) : slP i ys (.dat (.int k)) e = slPO i ys k e e[i]? := by
  unfold slP slPO
  cases e[i]? with
  | none => rfl
  | some c =>
    cases c with
    | own d => cases d <;> rfl
    | _ => rfl
theorem k_slPO (i : Nat) (ys xs : List D) (k : Int) (h : 0 ≤ k ∧ k ≤ xs.length ∧ xs.length + ys.length ≤ 1000000) : slPO i ys k e (some (.own (.lst xs))) = .nx (e.set i (.own (.lst (xs.take k.toNat ++ ys)))) := if_pos h
end
end DL

namespace DL
open PySem PySem.Spec L2
/-- nothing is let out -/
theorem takesN {X : Cx} : L2N.Takes X (fun _ _ _ _ => False) := fun u s' x => by
  obtain ⟨_, _, _, _, _, _, _, _, _, _, _, _, _, _, _, _, z⟩ := x
  exact z.elim
end DL

set_option Elab.async false
set_option linter.all false
set_option maxRecDepth 100000
set_option maxHeartbeats 0
namespace LAW
open PySem PySem.Spec L2 DL PyProof.Rows
noncomputable section
def C_MOST : D := (.int 60)
theorem kc_MOST : C_MOST = (.int 60) := rfl
theorem w_k_0 : PyData.strOk ("stop" : Str) = true := by decide +kernel
theorem w_e_0_0 : (("stop" : Str) == ("stop" : Str)) = true := by decide +kernel
theorem w_e_0_1 : (("stop" : Str) == ("gap" : Str)) = false := by decide +kernel
theorem w_e_0_2 : (("stop" : Str) == ("glass" : Str)) = false := by decide +kernel
theorem w_e_0_3 : (("stop" : Str) == ("gap 1" : Str)) = false := by decide +kernel
theorem w_e_0_4 : (("stop" : Str) == ("lens" : Str)) = false := by decide +kernel
theorem w_k_1 : PyData.strOk ("gap" : Str) = true := by decide +kernel
theorem w_e_1_0 : (("gap" : Str) == ("stop" : Str)) = false := by decide +kernel
theorem w_e_1_1 : (("gap" : Str) == ("gap" : Str)) = true := by decide +kernel
theorem w_e_1_2 : (("gap" : Str) == ("glass" : Str)) = false := by decide +kernel
theorem w_e_1_3 : (("gap" : Str) == ("gap 1" : Str)) = false := by decide +kernel
theorem w_e_1_4 : (("gap" : Str) == ("lens" : Str)) = false := by decide +kernel
theorem w_k_2 : PyData.strOk ("glass" : Str) = true := by decide +kernel
theorem w_e_2_0 : (("glass" : Str) == ("stop" : Str)) = false := by decide +kernel
theorem w_e_2_1 : (("glass" : Str) == ("gap" : Str)) = false := by decide +kernel
theorem w_e_2_2 : (("glass" : Str) == ("glass" : Str)) = true := by decide +kernel
theorem w_e_2_3 : (("glass" : Str) == ("gap 1" : Str)) = false := by decide +kernel
theorem w_e_2_4 : (("glass" : Str) == ("lens" : Str)) = false := by decide +kernel
theorem w_k_3 : PyData.strOk ("gap 1" : Str) = true := by decide +kernel
theorem w_e_3_0 : (("gap 1" : Str) == ("stop" : Str)) = false := by decide +kernel
theorem w_e_3_1 : (("gap 1" : Str) == ("gap" : Str)) = false := by decide +kernel
theorem w_e_3_2 : (("gap 1" : Str) == ("glass" : Str)) = false := by decide +kernel
theorem w_e_3_3 : (("gap 1" : Str) == ("gap 1" : Str)) = true := by decide +kernel
theorem w_e_3_4 : (("gap 1" : Str) == ("lens" : Str)) = false := by decide +kernel
theorem w_k_4 : PyData.strOk ("lens" : Str) = true := by decide +kernel
theorem w_e_4_0 : (("lens" : Str) == ("stop" : Str)) = false := by decide +kernel
theorem w_e_4_1 : (("lens" : Str) == ("gap" : Str)) = false := by decide +kernel
theorem w_e_4_2 : (("lens" : Str) == ("glass" : Str)) = false := by decide +kernel
theorem w_e_4_3 : (("lens" : Str) == ("gap 1" : Str)) = false := by decide +kernel
theorem w_e_4_4 : (("lens" : Str) == ("lens" : Str)) = true := by decide +kernel
def atNs : List Str := ["NoBench"]
theorem w_k_atn_NoBench : atNs.contains ("NoBench" : Str) = true := by decide +kernel
def tx_BenchError : List (Str × Bool) := [("NoBench", true)]
theorem w_k_tx_BenchError_NoBench : tx_BenchError.lookup ("NoBench" : Str) = some true := by rfl
def q_NoBench : IsT := ⟨[("NoBench", true)], [("NoneType", false)]⟩
theorem w_k_q_NoBench_NoBench (xs : List D) : isT q_NoBench (.exn "NoBench" xs) = some true := by rfl
theorem w_k_q_NoBench_n : isT q_NoBench .non = some false := by rfl
def q_ValueError : IsT := ⟨[("NoBench", true)], [("NoneType", false)]⟩
theorem w_k_q_ValueError_NoBench (xs : List D) : isT q_ValueError (.exn "NoBench" xs) = some true := by rfl
theorem w_k_q_ValueError_n : isT q_ValueError .non = some false := by rfl
def q_NoNumber : IsT := ⟨[("NoBench", false)], [("NoneType", false)]⟩
theorem w_k_q_NoNumber_NoBench (xs : List D) : isT q_NoNumber (.exn "NoBench" xs) = some false := by rfl
theorem w_k_q_NoNumber_n : isT q_NoNumber .non = some false := by rfl
def q_NoText : IsT := ⟨[("NoBench", false)], [("NoneType", false)]⟩
theorem w_k_q_NoText_NoBench (xs : List D) : isT q_NoText (.exn "NoBench" xs) = some false := by rfl
theorem w_k_q_NoText_n : isT q_NoText .non = some false := by rfl
def q_NoTable : IsT := ⟨[("NoBench", false)], [("NoneType", false)]⟩
theorem w_k_q_NoTable_NoBench (xs : List D) : isT q_NoTable (.exn "NoBench" xs) = some false := by rfl
theorem w_k_q_NoTable_n : isT q_NoTable .non = some false := by rfl
def q_NoBox : IsT := ⟨[("NoBench", false)], [("NoneType", false)]⟩
theorem w_k_q_NoBox_NoBench (xs : List D) : isT q_NoBox (.exn "NoBench" xs) = some false := by rfl
theorem w_k_q_NoBox_n : isT q_NoBox .non = some false := by rfl
def q_NoStock : IsT := ⟨[("NoBench", false)], [("NoneType", false)]⟩
theorem w_k_q_NoStock_NoBench (xs : List D) : isT q_NoStock (.exn "NoBench" xs) = some false := by rfl
theorem w_k_q_NoStock_n : isT q_NoStock .non = some false := by rfl
def q_NoWish : IsT := ⟨[("NoBench", false)], [("NoneType", false)]⟩
theorem w_k_q_NoWish_NoBench (xs : List D) : isT q_NoWish (.exn "NoBench" xs) = some false := by rfl
theorem w_k_q_NoWish_n : isT q_NoWish .non = some false := by rfl
def q_NoRow : IsT := ⟨[("NoBench", false)], [("NoneType", false)]⟩
theorem w_k_q_NoRow_NoBench (xs : List D) : isT q_NoRow (.exn "NoBench" xs) = some false := by rfl
theorem w_k_q_NoRow_n : isT q_NoRow .non = some false := by rfl
def q_Unknown : IsT := ⟨[("NoBench", false)], [("NoneType", false)]⟩
theorem w_k_q_Unknown_NoBench (xs : List D) : isT q_Unknown (.exn "NoBench" xs) = some false := by rfl
theorem w_k_q_Unknown_n : isT q_Unknown .non = some false := by rfl
/-! ### what each def computes -/
abbrev N_ulaw_drawn : List Str := ["_law_script", "_law_start"]

def B_ulaw_drawn : FS := sRet (eLst [eVar 1, eOp addD (eSl (eVar 0) (pNone) (pSome (eC (.int 60)))) (eLst [eVar 1]), eC (.int 0)])
def F_ulaw_drawn : Fn := fnD none N_ulaw_drawn.length B_ulaw_drawn

abbrev N_ulaw_draw : List Str := ["_law_drawn_here", "_law_many", "_law_cells", "_law_number"]

def B_ulaw_draw : FS := sSeq (sSet 2 (eOp ixD (eVar 0) (eC (.int 1))))
  (sSeq (sIx 0 (eC (.int 2)) (eOp addD (eOp ixD (eVar 0) (eC (.int 2))) (eC (.int 1))))
  (sSeq (sSet 3 (eOp addD (eOp mulD (eOp ixD (eVar 0) (eC (.int 0))) (eC (.int 48271))) (eOp modD (eOp ixD (eVar 2) (eOp modD (eOp ixD (eVar 0) (eC (.int 2))) (eCallB lenD [eVar 2]))) (eC (.int 2147483647)))))
  (sSeq (sIx 0 (eC (.int 0)) (eOp modD (eOp addD (eVar 3) (eOp ixD (eVar 0) (eC (.int 2)))) (eC (.int 2147483629))))
  (sRet (eOp modD (eOp divD (eOp ixD (eVar 0) (eC (.int 0))) (eC (.int 64))) (eVar 1))))))
def F_ulaw_draw : Fn := fnD (some 0) N_ulaw_draw.length B_ulaw_draw

abbrev N_ulaw_low : List Str := ["_law_top", "_law_bottom", "_law_one", "_law_other"]
def T_ulaw_low_1 : FB := tOf (eOp gtD (eVar 3) (eC (.int 0)))
def L_ulaw_low_2 : FS := sPar 2 3 (eVar 3) (eOp modD (eVar 2) (eVar 3))
def B_ulaw_low : FS := sSeq (sSet 2 (eCallB absD [eVar 0]))
  (sSeq (sSet 3 (eVar 1))
  (sSeq (sWhile T_ulaw_low_1 L_ulaw_low_2)
  (sRet (eTup [eOp divD (eVar 0) (eVar 2), eOp divD (eVar 1) (eVar 2)]))))
def F_ulaw_low : Fn := fnD none N_ulaw_low.length B_ulaw_low

abbrev N_ulaw_part : List Str := ["_law_drawn_here", "_law_far", "_law_top", "_law_bottom"]

def B_ulaw_part : FS := sSeq (sIf (tAndB (tOf (eVar 1)) (tOf (eOp eqD (eCall (some 0) F_ulaw_draw [eVar 0, eC (.int 3)]) (eC (.int 0))))) (sSeq (sSet 2 (eOp addD (eOp mulD (eCall (some 0) F_ulaw_draw [eVar 0, eC (.int 33554432)]) (eC (.int 33554432))) (eCall (some 0) F_ulaw_draw [eVar 0, eC (.int 33554432)])))
  (sSeq (sSet 3 (eOp addD (eOp mulD (eCall (some 0) F_ulaw_draw [eVar 0, eC (.int 33554432)]) (eC (.int 33554432))) (eCall (some 0) F_ulaw_draw [eVar 0, eC (.int 33554432)])))
  (sRet (eCall none F_ulaw_low [eOp addD (eOp subD (eOp modD (eVar 2) (eOp subD (eOp mulD (eC (.int 2)) (eOp powD (eC (.int 10)) (eC (.int 15)))) (eC (.int 1)))) (eOp powD (eC (.int 10)) (eC (.int 15)))) (eC (.int 1)), eOp addD (eC (.int 1)) (eOp modD (eVar 3) (eOp subD (eOp powD (eC (.int 10)) (eC (.int 15))) (eC (.int 1))))])))) (sNx))
  (sSeq (sSet 2 (eCall (some 0) F_ulaw_draw [eVar 0, eOp ixD (eLst [eC (.int 21), eC (.int 1999)]) (eCallB intD [eOp eqD (eCall (some 0) F_ulaw_draw [eVar 0, eC (.int 9)]) (eC (.int 1))])]))
  (sSeq (sSet 3 (eOp addD (eC (.int 1)) (eOp ixD (eLst [eC (.int 0), eC (.int 0), eCall (some 0) F_ulaw_draw [eVar 0, eC (.int 4)], eCall (some 0) F_ulaw_draw [eVar 0, eC (.int 12)]]) (eCall (some 0) F_ulaw_draw [eVar 0, eC (.int 4)]))))
  (sSeq (sIf (tOf (eOp eqD (eCall (some 0) F_ulaw_draw [eVar 0, eC (.int 2)]) (eC (.int 1)))) (sSet 2 (eOp subD (eC (.int 0)) (eVar 2))) (sNx))
  (sRet (eCall none F_ulaw_low [eVar 2, eVar 3])))))
def F_ulaw_part : Fn := fnD (some 0) N_ulaw_part.length B_ulaw_part

abbrev N_ulaw_under : List Str := ["_law_one", "_law_other"]

def B_ulaw_under : FS := sRet (eOp ltD (eOp mulD (eOp ixD (eVar 0) (eC (.int 0))) (eOp ixD (eVar 1) (eC (.int 1)))) (eOp mulD (eOp ixD (eVar 1) (eC (.int 0))) (eOp ixD (eVar 0) (eC (.int 1)))))
def F_ulaw_under : Fn := fnD none N_ulaw_under.length B_ulaw_under

abbrev N_ulaw_piece : List Str := ["_law_drawn_here", "_law_far", "_law_way", "_law_one", "_law_other"]

def B_ulaw_piece : FS := sSeq (sSet 2 (eCall (some 0) F_ulaw_draw [eVar 0, eC (.int 5)]))
  (sSeq (sSet 3 (eCall (some 0) F_ulaw_part [eVar 0, eVar 1]))
  (sSeq (sIf (tOf (eOp ltD (eVar 2) (eC (.int 2)))) (sRet (eTup [eC (.str "gap"), eVar 3])) (sNx))
  (sSeq (sIf (tOf (eOp ltD (eVar 2) (eC (.int 4)))) (sRet (eTup [eC (.str "glass"), eVar 3])) (sNx))
  (sSeq (sSet 4 (eCall (some 0) F_ulaw_part [eVar 0, eVar 1]))
  (sSeq (sIf (tOf (eCall none F_ulaw_under [eVar 4, eVar 3])) (sPar 3 4 (eVar 4) (eVar 3)) (sNx))
  (sRet (eTup [eC (.str "stop"), eVar 3, eVar 4])))))))
def F_ulaw_piece : Fn := fnD (some 0) N_ulaw_piece.length B_ulaw_piece

abbrev N_ulaw_cell_at : List Str := ["_law_script", "_law_k"]

def B_ulaw_cell_at : FS := sSeq (sIf (tOf (eOp ltD (eVar 1) (eCallB lenD [eVar 0]))) (sRet (eOp ixD (eVar 0) (eVar 1))) (sNx))
  (sRet (eC (.int 0)))
def F_ulaw_cell_at : Fn := fnD none N_ulaw_cell_at.length B_ulaw_cell_at

abbrev N_is_whole : List Str := ["thing"]

def B_is_whole : FS := sRet (eAnd (eIsiB "int" (eVar 0)) (eNot (eIsiB "bool" (eVar 0))))
def F_is_whole : Fn := fnD none N_is_whole.length B_is_whole

abbrev N_shared_by : List Str := ["one", "other"]
def T_shared_by_1 : FB := tOf (eOp gtD (eVar 1) (eC (.int 0)))
def L_shared_by_2 : FS := sPar 0 1 (eVar 1) (eOp modD (eVar 0) (eVar 1))
def B_shared_by : FS := sSeq (sSet 0 (eCallB absD [eVar 0]))
  (sSeq (sSet 1 (eCallB absD [eVar 1]))
  (sSeq (sWhile T_shared_by_1 L_shared_by_2)
  (sRet (eVar 0))))
def F_shared_by : Fn := fnD none N_shared_by.length B_shared_by

abbrev N_is_ratio : List Str := ["thing"]

def B_is_ratio : FS := sSeq (sIf (tOrB (tNotB (tOf (eIsiB "tuple" (eVar 0)))) (tOrB (tOf (eOp neD (eCallB lenD [eVar 0]) (eC (.int 2)))) (tOrB (tNotB (tOf (eCall none F_is_whole [eOp ixD (eVar 0) (eC (.int 0))]))) (tNotB (tOf (eCall none F_is_whole [eOp ixD (eVar 0) (eC (.int 1))])))))) (sRet (eC (.bl false))) (sNx))
  (sRet (eAnd (eOp gtD (eOp ixD (eVar 0) (eC (.int 1))) (eC (.int 0))) (eOp eqD (eCall none F_shared_by [eOp ixD (eVar 0) (eC (.int 0)), eOp ixD (eVar 0) (eC (.int 1))]) (eC (.int 1)))))
def F_is_ratio : Fn := fnD none N_is_ratio.length B_is_ratio

abbrev N_is_less : List Str := ["one", "other"]

def B_is_less : FS := sRet (eOp ltD (eOp mulD (eOp ixD (eVar 0) (eC (.int 0))) (eOp ixD (eVar 1) (eC (.int 1)))) (eOp mulD (eOp ixD (eVar 1) (eC (.int 0))) (eOp ixD (eVar 0) (eC (.int 1)))))
def F_is_less : Fn := fnD none N_is_less.length B_is_less

abbrev N_is_piece : List Str := ["thing", "part"]
def E_is_piece_1 : F1 := eCall none F_is_ratio [eVar 1]
def B_is_piece : FS := sSeq (sIf (tOrB (tNotB (tOf (eIsiB "tuple" (eVar 0)))) (tOrB (tOf (eOp ltD (eCallB lenD [eVar 0]) (eC (.int 2)))) (tNotB (tOf (eIsiB "str" (eOp ixD (eVar 0) (eC (.int 0)))))))) (sRet (eC (.bl false))) (sNx))
  (sSeq (sIf (tNotB (tOf (eCallB allD [eLc (fiSeq (eSl (eVar 0) (pSome (eC (.int 1))) (pNone))) (tgN 1) (tTrue) (E_is_piece_1) [1]]))) (sRet (eC (.bl false))) (sNx))
  (sSeq (sIf (tOf (eOp eqD (eOp ixD (eVar 0) (eC (.int 0))) (eC (.str "stop")))) (sRet (eAnd (eOp eqD (eCallB lenD [eVar 0]) (eC (.int 3))) (eNot (eCall none F_is_less [eOp ixD (eVar 0) (eC (.int 2)), eOp ixD (eVar 0) (eC (.int 1))])))) (sNx))
  (sRet (eAnd (eOp eqD (eCallB lenD [eVar 0]) (eC (.int 2))) (eOr (eOp eqD (eOp ixD (eVar 0) (eC (.int 0))) (eC (.str "gap"))) (eOp eqD (eOp ixD (eVar 0) (eC (.int 0))) (eC (.str "glass"))))))))
def F_is_piece : Fn := fnD none N_is_piece.length B_is_piece

abbrev N_look_at : List Str := ["bench", "at", "thing"]
def L_look_at_1 : FS := sIf (tNotB (tOf (eCall none F_is_piece [eVar 2]))) (sRaiseA "NoBench" (eVar 1)) (sNx)
def B_look_at : FS := sSeq (sIf (tOrB (tNotB (tOf (eIsiB "list" (eVar 0)))) (tOf (eOp gtD (eCallB lenD [eVar 0]) (eC C_MOST)))) (sRaiseA "NoBench" (eC .non)) (sNx))
  (sFor (fiEnum (eVar 0)) (tgTup (tgCons (tgN 1) (tgCons (tgN 2) (tgNil)))) L_look_at_1)
def F_look_at : Fn := fnD none N_look_at.length B_look_at

abbrev N_ulaw_whole : List Str := ["_law_found"]

def B_ulaw_whole : FS := sRet (eAnd (eIsiB "int" (eVar 0)) (eNot (eIsiB "bool" (eVar 0))))
def F_ulaw_whole : Fn := fnD none N_ulaw_whole.length B_ulaw_whole

abbrev N_ulaw_kinds : List Str := ["_law_e", "_law_some"]

def B_ulaw_kinds : FS := sSeq (sSet 1 (eLst [eIsC q_NoBench (eVar 0), eIsC q_ValueError (eVar 0), eIsC q_NoNumber (eVar 0), eIsC q_NoText (eVar 0)]))
  (sSeq (sSet 1 (eOp addD (eVar 1) (eLst [eIsC q_NoTable (eVar 0), eIsC q_NoBox (eVar 0), eIsC q_NoStock (eVar 0), eIsC q_NoWish (eVar 0)])))
  (sRet (eOp addD (eVar 1) (eLst [eIsC q_NoRow (eVar 0), eIsC q_Unknown (eVar 0)]))))
def F_ulaw_kinds : Fn := fnD none N_ulaw_kinds.length B_ulaw_kinds

abbrev N_ulaw_refused : List Str := ["_law_thing", "_law_due", "_law_kinds_here", "_law_at", "_law_e"]
def H_ulaw_refused_1 : FS := sSeq (sSet 2 (eCall none F_ulaw_kinds [eVar 4]))
  (sIf (tOf (eOp ixD (eVar 2) (eC (.int 0)))) (sSet 3 (eAt atNs (eVar 4))) (sNx))
def B_ulaw_refused : FS := sSeq (sSet 2 (eLst []))
  (sSeq (sSet 3 (eNeg (eC (.int 1))))
  (sSeq (sTry (sExpr (eCall none F_look_at [eVar 0])) [⟨tx_BenchError, some 4, H_ulaw_refused_1⟩])
  (sSeq (sIf (tOf (eOp neD (eVar 2) (eOp addD (eLst [eC (.bl true), eC (.bl true)]) (eRep (eLst [eC (.bl false)]) (eC (.int 8)))))) (sRet (eC (.bl false))) (sNx))
  (sSeq (sIf (tOf (eOp isD (eVar 1) (eC .non))) (sRet (eOp isD (eVar 3) (eC .non))) (sNx))
  (sRet (eAnd (eCall none F_ulaw_whole [eVar 3]) (eOp eqD (eVar 3) (eVar 1))))))))
def F_ulaw_refused : Fn := fnD none N_ulaw_refused.length B_ulaw_refused

abbrev N_ulaw_wrong : List Str := ["_law_piece_here", "_law_cell", "_law_some"]

def B_ulaw_wrong : FS := sSeq (sSet 2 (eLst [eCallB listD [eVar 0], eC (.int 7), eC .non, eC (.str "gap 1"), eTup [eOp ixD (eVar 0) (eC (.int 0))], eTup [eOp ixD (eVar 0) (eC (.int 0)), eC (.int 3)], eOp ixD (eVar 0) (eC (.int 1)), eOp addD (eVar 0) (eTup [eC (.int 1)]), eTup [eC (.str "lens"), eTup [eC (.int 1), eC (.int 1)]], eC (.bl true)]))
  (sRet (eOp ixD (eOp addD (eVar 2) (eLst [eTup [eC (.str "stop"), eTup [eC (.int 1), eC (.int 1)], eTup [eC (.int 1), eC (.int 2)]], eTup [eC (.str "gap"), eTup [eC (.int 2), eC (.int 4)]]])) (eOp modD (eVar 1) (eC (.int 12)))))
def F_ulaw_wrong : Fn := fnD none N_ulaw_wrong.length B_ulaw_wrong

abbrev N_law : List Str := ["_law_script", "_law_drawn_here", "_law_far", "_law_many", "_law_bench", "_law_more", "_law_cell", "_law_number", "_law_things", "_law_at", "_law_wrong_here", "_law_handed", "_law_k"]
def E_law_1 : F1 := eCall (some 0) F_ulaw_piece [eVar 1, eVar 2]
def E_law_2 : F1 := eCall (some 0) F_ulaw_piece [eVar 1, eVar 2]
def L_law_3 : FS := sSeq (sSet 7 (eOp divD (eOp modD (eOp mulD (eVar 6) (eC (.int 69621))) (eC (.int 2147483647))) (eC (.int 8))))
  (sSeq (sSet 8 (eLst [eCallB tupleD [eVar 4], eDct0, eC (.str "gap 1"), eC .non, eC (.int 5), eC (.bl true), eTup [], eOp addD (eVar 5) (eLst [eOp ixD (eVar 5) (eC (.int 0))]), eOp addD (eVar 5) (eLst [eC .non]), eOp addD (eLst [eC .non]) (eVar 5)]))
  (sSeq (sIf (tNotB (tOf (eCall none F_ulaw_refused [eOp ixD (eVar 8) (eOp modD (eVar 7) (eC (.int 10))), eC .non]))) (sRet (eC (.bl false))) (sNx))
  (sSeq (sIf (tOf (eOp neD (eVar 4) (eLst []))) (sSeq (sSet 9 (eOp modD (eOp divD (eVar 7) (eC (.int 10))) (eCallB lenD [eVar 4])))
  (sSeq (sSet 10 (eOp addD (eOp addD (eSl (eVar 4) (pNone) (pSome (eVar 9))) (eLst [eCall none F_ulaw_wrong [eOp ixD (eVar 4) (eVar 9), eOp divD (eVar 7) (eC (.int 7))]])) (eSl (eVar 4) (pSome (eOp addD (eVar 9) (eC (.int 1)))) (pNone))))
  (sSeq (sIf (tOf (eOp eqD (eOp modD (eOp divD (eVar 7) (eC (.int 3))) (eC (.int 2))) (eC (.int 1)))) (sSl 10 (eOp addD (eVar 9) (eC (.int 1))) (eRep (eLst [eC .non]) (eCallB lenD [eSl (eVar 10) (pSome (eOp addD (eVar 9) (eC (.int 1)))) (pNone)]))) (sNx))
  (sSeq (sSet 11 (eCallB listD [eVar 10]))
  (sIf (tOrB (tNotB (tOf (eCall none F_ulaw_refused [eVar 11, eVar 9]))) (tOf (eOp neD (eVar 11) (eVar 10)))) (sRet (eC (.bl false))) (sNx)))))) (sNx))
  (sIf (tOf (eOp isnD (eCall none F_look_at [eCallB listD [eVar 4]]) (eC .non))) (sRet (eC (.bl false))) (sNx)))))
def B_law : FS := sSeq (sSet 1 (eCall none F_ulaw_drawn [eVar 0, eC (.int 31)]))
  (sSeq (sSet 2 (eOp eqD (eOp modD (eCall none F_ulaw_cell_at [eVar 0, eC (.int 0)]) (eC (.int 16))) (eC (.int 5))))
  (sSeq (sSet 3 (eOp ixD (eLst [eCall (some 0) F_ulaw_draw [eVar 1, eC (.int 9)], eCall (some 0) F_ulaw_draw [eVar 1, eC (.int 61)], eC (.int 60)]) (eCall (some 0) F_ulaw_draw [eVar 1, eC (.int 3)])))
  (sSeq (sSet 4 (eLc (fiRng1 (eVar 3)) (tgN 12) (tTrue) (E_law_1) [12]))
  (sSeq (sSet 5 (eLc (fiRng1 (eC (.int 60))) (tgN 12) (tTrue) (E_law_2) [12]))
  (sSeq (sIf (tOrB (tOf (eOp isnD (eCall none F_look_at [eVar 4]) (eC .non))) (tOrB (tOf (eOp isnD (eCall none F_look_at [eLst []]) (eC .non))) (tOf (eOp isnD (eCall none F_look_at [eVar 5]) (eC .non))))) (sRet (eC (.bl false))) (sNx))
  (sSeq (sFor (fiSeq (eOp addD (eSl (eVar 0) (pSome (eC (.int 1))) (pSome (eC (.int 31)))) (eLst [eCallB lenD [eVar 0]]))) (tgN 6) L_law_3)
  (sRet (eC (.bl true)))))))))
def F_law : Fn := fnD none N_law.length B_law

def top (i : Nat) : Stmt := PySem.Challenge.pw_grindbench_k09_benches_looked_at.main.body.getD i (.Pass ⟨0, 0, 0, 0⟩)
abbrev s_NoBenchu_initu : Stmt := inClass (top 3) 0
theorem sc_NoBenchu_initu : FnScope ["self", "at"] ["self", "at"] (defScope s_NoBenchu_initu) := ⟨rfl, rfl, rfl, by decide +kernel, rfl, by decide +kernel, by decide +kernel⟩
abbrev s_ulaw_drawn : Stmt := top 23
abbrev p_ulaw_drawn : List Str := ["_law_script", "_law_start"]
theorem sc_ulaw_drawn : FnScope N_ulaw_drawn p_ulaw_drawn (defScope s_ulaw_drawn) := ⟨rfl, rfl, rfl, by decide +kernel, rfl, by decide +kernel, by decide +kernel⟩

abbrev s_ulaw_draw : Stmt := top 24
abbrev p_ulaw_draw : List Str := ["_law_drawn_here", "_law_many"]
theorem sc_ulaw_draw : FnScope N_ulaw_draw p_ulaw_draw (defScope s_ulaw_draw) := ⟨rfl, rfl, rfl, by decide +kernel, rfl, by decide +kernel, by decide +kernel⟩

abbrev s_ulaw_low : Stmt := top 25
abbrev p_ulaw_low : List Str := ["_law_top", "_law_bottom"]
theorem sc_ulaw_low : FnScope N_ulaw_low p_ulaw_low (defScope s_ulaw_low) := ⟨rfl, rfl, rfl, by decide +kernel, rfl, by decide +kernel, by decide +kernel⟩

abbrev s_ulaw_part : Stmt := top 27
abbrev p_ulaw_part : List Str := ["_law_drawn_here", "_law_far"]
theorem sc_ulaw_part : FnScope N_ulaw_part p_ulaw_part (defScope s_ulaw_part) := ⟨rfl, rfl, rfl, by decide +kernel, rfl, by decide +kernel, by decide +kernel⟩

abbrev s_ulaw_under : Stmt := top 26
abbrev p_ulaw_under : List Str := ["_law_one", "_law_other"]
theorem sc_ulaw_under : FnScope N_ulaw_under p_ulaw_under (defScope s_ulaw_under) := ⟨rfl, rfl, rfl, by decide +kernel, rfl, by decide +kernel, by decide +kernel⟩

abbrev s_ulaw_piece : Stmt := top 28
abbrev p_ulaw_piece : List Str := ["_law_drawn_here", "_law_far"]
theorem sc_ulaw_piece : FnScope N_ulaw_piece p_ulaw_piece (defScope s_ulaw_piece) := ⟨rfl, rfl, rfl, by decide +kernel, rfl, by decide +kernel, by decide +kernel⟩

abbrev s_ulaw_cell_at : Stmt := top 21
abbrev p_ulaw_cell_at : List Str := ["_law_script", "_law_k"]
theorem sc_ulaw_cell_at : FnScope N_ulaw_cell_at p_ulaw_cell_at (defScope s_ulaw_cell_at) := ⟨rfl, rfl, rfl, by decide +kernel, rfl, by decide +kernel, by decide +kernel⟩

abbrev s_is_whole : Stmt := top 12
abbrev p_is_whole : List Str := ["thing"]
theorem sc_is_whole : FnScope N_is_whole p_is_whole (defScope s_is_whole) := ⟨rfl, rfl, rfl, by decide +kernel, rfl, by decide +kernel, by decide +kernel⟩

abbrev s_shared_by : Stmt := top 13
abbrev p_shared_by : List Str := ["one", "other"]
theorem sc_shared_by : FnScope N_shared_by p_shared_by (defScope s_shared_by) := ⟨rfl, rfl, rfl, by decide +kernel, rfl, by decide +kernel, by decide +kernel⟩

abbrev s_is_ratio : Stmt := top 14
abbrev p_is_ratio : List Str := ["thing"]
theorem sc_is_ratio : FnScope N_is_ratio p_is_ratio (defScope s_is_ratio) := ⟨rfl, rfl, rfl, by decide +kernel, rfl, by decide +kernel, by decide +kernel⟩

abbrev s_is_less : Stmt := top 15
abbrev p_is_less : List Str := ["one", "other"]
theorem sc_is_less : FnScope N_is_less p_is_less (defScope s_is_less) := ⟨rfl, rfl, rfl, by decide +kernel, rfl, by decide +kernel, by decide +kernel⟩

abbrev s_is_piece : Stmt := top 18
abbrev p_is_piece : List Str := ["thing"]
theorem sc_is_piece : FnScope N_is_piece p_is_piece (defScope s_is_piece) := ⟨rfl, rfl, rfl, by decide +kernel, rfl, by decide +kernel, by decide +kernel⟩

abbrev s_look_at : Stmt := top 19
abbrev p_look_at : List Str := ["bench"]
theorem sc_look_at : FnScope N_look_at p_look_at (defScope s_look_at) := ⟨rfl, rfl, rfl, by decide +kernel, rfl, by decide +kernel, by decide +kernel⟩

abbrev s_ulaw_whole : Stmt := top 22
abbrev p_ulaw_whole : List Str := ["_law_found"]
theorem sc_ulaw_whole : FnScope N_ulaw_whole p_ulaw_whole (defScope s_ulaw_whole) := ⟨rfl, rfl, rfl, by decide +kernel, rfl, by decide +kernel, by decide +kernel⟩

abbrev s_ulaw_kinds : Stmt := top 29
abbrev p_ulaw_kinds : List Str := ["_law_e"]
theorem sc_ulaw_kinds : FnScope N_ulaw_kinds p_ulaw_kinds (defScope s_ulaw_kinds) := ⟨rfl, rfl, rfl, by decide +kernel, rfl, by decide +kernel, by decide +kernel⟩

abbrev s_ulaw_refused : Stmt := top 30
abbrev p_ulaw_refused : List Str := ["_law_thing", "_law_due"]
theorem sc_ulaw_refused : FnScope N_ulaw_refused p_ulaw_refused (defScope s_ulaw_refused) := ⟨rfl, rfl, rfl, by decide +kernel, rfl, by decide +kernel, by decide +kernel⟩

abbrev s_ulaw_wrong : Stmt := top 31
abbrev p_ulaw_wrong : List Str := ["_law_piece_here", "_law_cell"]
theorem sc_ulaw_wrong : FnScope N_ulaw_wrong p_ulaw_wrong (defScope s_ulaw_wrong) := ⟨rfl, rfl, rfl, by decide +kernel, rfl, by decide +kernel, by decide +kernel⟩

abbrev s_law : Stmt := top 32
abbrev p_law : List Str := ["_law_script"]
theorem sc_law : FnScope N_law p_law (defScope s_law) := ⟨rfl, rfl, rfl, by decide +kernel, rfl, by decide +kernel, by decide +kernel⟩

/-! ### what the top has written -/
structure Facts (K : PySem.W.Frag) (mg : Str → Option Value) where
  a_ulaw_drawn : Addr
  f_ulaw_drawn : FuncData
  F_ulaw_drawn : Fun K "_law_drawn" "_law_drawn" s_ulaw_drawn a_ulaw_drawn f_ulaw_drawn
  b_ulaw_drawn : Binds K f_ulaw_drawn p_ulaw_drawn []
  m_ulaw_drawn : mg "_law_drawn" = some (.ref a_ulaw_drawn)
  k_ulaw_drawn : PySem.W.keepIn K (.ref a_ulaw_drawn) = true
  a_ulaw_draw : Addr
  f_ulaw_draw : FuncData
  F_ulaw_draw : Fun K "_law_draw" "_law_draw" s_ulaw_draw a_ulaw_draw f_ulaw_draw
  b_ulaw_draw : Binds K f_ulaw_draw p_ulaw_draw []
  m_ulaw_draw : mg "_law_draw" = some (.ref a_ulaw_draw)
  k_ulaw_draw : PySem.W.keepIn K (.ref a_ulaw_draw) = true
  a_ulaw_low : Addr
  f_ulaw_low : FuncData
  F_ulaw_low : Fun K "_law_low" "_law_low" s_ulaw_low a_ulaw_low f_ulaw_low
  b_ulaw_low : Binds K f_ulaw_low p_ulaw_low []
  m_ulaw_low : mg "_law_low" = some (.ref a_ulaw_low)
  k_ulaw_low : PySem.W.keepIn K (.ref a_ulaw_low) = true
  a_ulaw_part : Addr
  f_ulaw_part : FuncData
  F_ulaw_part : Fun K "_law_part" "_law_part" s_ulaw_part a_ulaw_part f_ulaw_part
  b_ulaw_part : Binds K f_ulaw_part p_ulaw_part []
  m_ulaw_part : mg "_law_part" = some (.ref a_ulaw_part)
  k_ulaw_part : PySem.W.keepIn K (.ref a_ulaw_part) = true
  a_ulaw_under : Addr
  f_ulaw_under : FuncData
  F_ulaw_under : Fun K "_law_under" "_law_under" s_ulaw_under a_ulaw_under f_ulaw_under
  b_ulaw_under : Binds K f_ulaw_under p_ulaw_under []
  m_ulaw_under : mg "_law_under" = some (.ref a_ulaw_under)
  k_ulaw_under : PySem.W.keepIn K (.ref a_ulaw_under) = true
  a_ulaw_piece : Addr
  f_ulaw_piece : FuncData
  F_ulaw_piece : Fun K "_law_piece" "_law_piece" s_ulaw_piece a_ulaw_piece f_ulaw_piece
  b_ulaw_piece : Binds K f_ulaw_piece p_ulaw_piece []
  m_ulaw_piece : mg "_law_piece" = some (.ref a_ulaw_piece)
  k_ulaw_piece : PySem.W.keepIn K (.ref a_ulaw_piece) = true
  a_ulaw_cell_at : Addr
  f_ulaw_cell_at : FuncData
  F_ulaw_cell_at : Fun K "_law_cell_at" "_law_cell_at" s_ulaw_cell_at a_ulaw_cell_at f_ulaw_cell_at
  b_ulaw_cell_at : Binds K f_ulaw_cell_at p_ulaw_cell_at []
  m_ulaw_cell_at : mg "_law_cell_at" = some (.ref a_ulaw_cell_at)
  k_ulaw_cell_at : PySem.W.keepIn K (.ref a_ulaw_cell_at) = true
  a_is_whole : Addr
  f_is_whole : FuncData
  F_is_whole : Fun K "is_whole" "is_whole" s_is_whole a_is_whole f_is_whole
  b_is_whole : Binds K f_is_whole p_is_whole []
  m_is_whole : mg "is_whole" = some (.ref a_is_whole)
  k_is_whole : PySem.W.keepIn K (.ref a_is_whole) = true
  a_shared_by : Addr
  f_shared_by : FuncData
  F_shared_by : Fun K "shared_by" "shared_by" s_shared_by a_shared_by f_shared_by
  b_shared_by : Binds K f_shared_by p_shared_by []
  m_shared_by : mg "shared_by" = some (.ref a_shared_by)
  k_shared_by : PySem.W.keepIn K (.ref a_shared_by) = true
  a_is_ratio : Addr
  f_is_ratio : FuncData
  F_is_ratio : Fun K "is_ratio" "is_ratio" s_is_ratio a_is_ratio f_is_ratio
  b_is_ratio : Binds K f_is_ratio p_is_ratio []
  m_is_ratio : mg "is_ratio" = some (.ref a_is_ratio)
  k_is_ratio : PySem.W.keepIn K (.ref a_is_ratio) = true
  a_is_less : Addr
  f_is_less : FuncData
  F_is_less : Fun K "is_less" "is_less" s_is_less a_is_less f_is_less
  b_is_less : Binds K f_is_less p_is_less []
  m_is_less : mg "is_less" = some (.ref a_is_less)
  k_is_less : PySem.W.keepIn K (.ref a_is_less) = true
  a_is_piece : Addr
  f_is_piece : FuncData
  F_is_piece : Fun K "is_piece" "is_piece" s_is_piece a_is_piece f_is_piece
  b_is_piece : Binds K f_is_piece p_is_piece []
  m_is_piece : mg "is_piece" = some (.ref a_is_piece)
  k_is_piece : PySem.W.keepIn K (.ref a_is_piece) = true
  a_look_at : Addr
  f_look_at : FuncData
  F_look_at : Fun K "look_at" "look_at" s_look_at a_look_at f_look_at
  b_look_at : Binds K f_look_at p_look_at []
  m_look_at : mg "look_at" = some (.ref a_look_at)
  k_look_at : PySem.W.keepIn K (.ref a_look_at) = true
  a_ulaw_whole : Addr
  f_ulaw_whole : FuncData
  F_ulaw_whole : Fun K "_law_whole" "_law_whole" s_ulaw_whole a_ulaw_whole f_ulaw_whole
  b_ulaw_whole : Binds K f_ulaw_whole p_ulaw_whole []
  m_ulaw_whole : mg "_law_whole" = some (.ref a_ulaw_whole)
  k_ulaw_whole : PySem.W.keepIn K (.ref a_ulaw_whole) = true
  a_ulaw_kinds : Addr
  f_ulaw_kinds : FuncData
  F_ulaw_kinds : Fun K "_law_kinds" "_law_kinds" s_ulaw_kinds a_ulaw_kinds f_ulaw_kinds
  b_ulaw_kinds : Binds K f_ulaw_kinds p_ulaw_kinds []
  m_ulaw_kinds : mg "_law_kinds" = some (.ref a_ulaw_kinds)
  k_ulaw_kinds : PySem.W.keepIn K (.ref a_ulaw_kinds) = true
  a_ulaw_refused : Addr
  f_ulaw_refused : FuncData
  F_ulaw_refused : Fun K "_law_refused" "_law_refused" s_ulaw_refused a_ulaw_refused f_ulaw_refused
  b_ulaw_refused : Binds K f_ulaw_refused p_ulaw_refused []
  m_ulaw_refused : mg "_law_refused" = some (.ref a_ulaw_refused)
  k_ulaw_refused : PySem.W.keepIn K (.ref a_ulaw_refused) = true
  a_ulaw_wrong : Addr
  f_ulaw_wrong : FuncData
  F_ulaw_wrong : Fun K "_law_wrong" "_law_wrong" s_ulaw_wrong a_ulaw_wrong f_ulaw_wrong
  b_ulaw_wrong : Binds K f_ulaw_wrong p_ulaw_wrong []
  m_ulaw_wrong : mg "_law_wrong" = some (.ref a_ulaw_wrong)
  k_ulaw_wrong : PySem.W.keepIn K (.ref a_ulaw_wrong) = true
  a_law : Addr
  f_law : FuncData
  F_law : Fun K "law" "law" s_law a_law f_law
  b_law : Binds K f_law p_law []
  m_law : mg "law" = some (.ref a_law)
  k_law : PySem.W.keepIn K (.ref a_law) = true
  x_BenchError : Addr
  mx_BenchError : mg "BenchError" = some (.ref x_BenchError)
  x_NoBench : Addr
  mx_NoBench : mg "NoBench" = some (.ref x_NoBench)
  x_NoBox : Addr
  mx_NoBox : mg "NoBox" = some (.ref x_NoBox)
  x_NoNumber : Addr
  mx_NoNumber : mg "NoNumber" = some (.ref x_NoNumber)
  x_NoRow : Addr
  mx_NoRow : mg "NoRow" = some (.ref x_NoRow)
  x_NoStock : Addr
  mx_NoStock : mg "NoStock" = some (.ref x_NoStock)
  x_NoTable : Addr
  mx_NoTable : mg "NoTable" = some (.ref x_NoTable)
  x_NoText : Addr
  mx_NoText : mg "NoText" = some (.ref x_NoText)
  x_NoWish : Addr
  mx_NoWish : mg "NoWish" = some (.ref x_NoWish)
  x_Unknown : Addr
  mx_Unknown : mg "Unknown" = some (.ref x_Unknown)
  xis_NoBench : XIs K x_NoBench
  xo_NoBench : OexC K x_NoBench
  xI_NoBench : Addr
  xfd_NoBench : FuncData
  xi_NoBench : PySem.W.findIn K (.ref x_NoBench) "__init__" = some (some (.ref xI_NoBench))
  xt_NoBench : PySem.W.typeIn K (.ref xI_NoBench) = some (.type "function")
  xn_NoBench : PySem.W.findIn K (.ref x_NoBench) "at" = some none
  XF_NoBench : Fun K "__init__" "NoBench.__init__" s_NoBenchu_initu xI_NoBench xfd_NoBench
  xb_NoBench : Binds K xfd_NoBench ["self", "at"] []
  xat_NoBench : XAt K x_NoBench
  xbase_NoBench : XBase K x_BenchError
  exm_NoBench_BenchError : PySem.W.exmOne K (.ref x_NoBench) (.ref x_BenchError) = some true
  kit_NoBench_NoBench : PySem.W.kitOne K (.ref x_NoBench) (.ref x_NoBench) = some true
  ve_NoBench : PySem.W.kitOne K (.ref x_NoBench) (.type "ValueError") = some true
  kit_NoBench_NoNumber : PySem.W.kitOne K (.ref x_NoBench) (.ref x_NoNumber) = some false
  kit_NoBench_NoText : PySem.W.kitOne K (.ref x_NoBench) (.ref x_NoText) = some false
  kit_NoBench_NoTable : PySem.W.kitOne K (.ref x_NoBench) (.ref x_NoTable) = some false
  kit_NoBench_NoBox : PySem.W.kitOne K (.ref x_NoBench) (.ref x_NoBox) = some false
  kit_NoBench_NoStock : PySem.W.kitOne K (.ref x_NoBench) (.ref x_NoStock) = some false
  kit_NoBench_NoWish : PySem.W.kitOne K (.ref x_NoBench) (.ref x_NoWish) = some false
  kit_NoBench_NoRow : PySem.W.kitOne K (.ref x_NoBench) (.ref x_NoRow) = some false
  kit_NoBench_Unknown : PySem.W.kitOne K (.ref x_NoBench) (.ref x_Unknown) = some false
  kn_NoBench : PySem.W.kitOne K (.type "NoneType") (.ref x_NoBench) = some false
  kn_NoNumber : PySem.W.kitOne K (.type "NoneType") (.ref x_NoNumber) = some false
  kn_NoText : PySem.W.kitOne K (.type "NoneType") (.ref x_NoText) = some false
  kn_NoTable : PySem.W.kitOne K (.type "NoneType") (.ref x_NoTable) = some false
  kn_NoBox : PySem.W.kitOne K (.type "NoneType") (.ref x_NoBox) = some false
  kn_NoStock : PySem.W.kitOne K (.type "NoneType") (.ref x_NoStock) = some false
  kn_NoWish : PySem.W.kitOne K (.type "NoneType") (.ref x_NoWish) = some false
  kn_NoRow : PySem.W.kitOne K (.type "NoneType") (.ref x_NoRow) = some false
  kn_Unknown : PySem.W.kitOne K (.type "NoneType") (.ref x_Unknown) = some false
  z_ValueError : mg "ValueError" = none
  z_abs : mg "abs" = none
  z_all : mg "all" = none
  z_bool : mg "bool" = none
  z_enumerate : mg "enumerate" = none
  z_int : mg "int" = none
  z_isinstance : mg "isinstance" = none
  z_len : mg "len" = none
  z_list : mg "list" = none
  z_range : mg "range" = none
  z_str : mg "str" = none
  z_tuple : mg "tuple" = none
  c_MOST : Kon K mg "MOST" C_MOST

theorem atN_ok {K : PySem.W.Frag} {mg : Str → Option Value} (T : Facts K mg) : AtOk K mg atNs := at_and T.mx_NoBench T.xat_NoBench (at_none)
theorem tbx_BenchError {K : PySem.W.Frag} {mg : Str → Option Value} (T : Facts K mg) : TbOk K mg tx_BenchError (.ref T.x_BenchError) := tb_and T.mx_NoBench T.exm_NoBench_BenchError (tb_none)
theorem iq_NoBench {K : PySem.W.Frag} {mg : Str → Option Value} (T : Facts K mg) : IsOk K mg q_NoBench (.ref T.x_NoBench) := is_ok (ex_and T.mx_NoBench T.kit_NoBench_NoBench T.xis_NoBench (ex_none)) (ty_and T.kn_NoBench ty_none)
theorem iq_ValueError {K : PySem.W.Frag} {mg : Str → Option Value} (T : Facts K mg) : IsOk K mg q_ValueError (.type "ValueError") := is_ok (ex_and T.mx_NoBench T.ve_NoBench T.xis_NoBench (ex_none)) (ty_and kit_nve ty_none)
theorem iq_NoNumber {K : PySem.W.Frag} {mg : Str → Option Value} (T : Facts K mg) : IsOk K mg q_NoNumber (.ref T.x_NoNumber) := is_ok (ex_and T.mx_NoBench T.kit_NoBench_NoNumber T.xis_NoBench (ex_none)) (ty_and T.kn_NoNumber ty_none)
theorem iq_NoText {K : PySem.W.Frag} {mg : Str → Option Value} (T : Facts K mg) : IsOk K mg q_NoText (.ref T.x_NoText) := is_ok (ex_and T.mx_NoBench T.kit_NoBench_NoText T.xis_NoBench (ex_none)) (ty_and T.kn_NoText ty_none)
theorem iq_NoTable {K : PySem.W.Frag} {mg : Str → Option Value} (T : Facts K mg) : IsOk K mg q_NoTable (.ref T.x_NoTable) := is_ok (ex_and T.mx_NoBench T.kit_NoBench_NoTable T.xis_NoBench (ex_none)) (ty_and T.kn_NoTable ty_none)
theorem iq_NoBox {K : PySem.W.Frag} {mg : Str → Option Value} (T : Facts K mg) : IsOk K mg q_NoBox (.ref T.x_NoBox) := is_ok (ex_and T.mx_NoBench T.kit_NoBench_NoBox T.xis_NoBench (ex_none)) (ty_and T.kn_NoBox ty_none)
theorem iq_NoStock {K : PySem.W.Frag} {mg : Str → Option Value} (T : Facts K mg) : IsOk K mg q_NoStock (.ref T.x_NoStock) := is_ok (ex_and T.mx_NoBench T.kit_NoBench_NoStock T.xis_NoBench (ex_none)) (ty_and T.kn_NoStock ty_none)
theorem iq_NoWish {K : PySem.W.Frag} {mg : Str → Option Value} (T : Facts K mg) : IsOk K mg q_NoWish (.ref T.x_NoWish) := is_ok (ex_and T.mx_NoBench T.kit_NoBench_NoWish T.xis_NoBench (ex_none)) (ty_and T.kn_NoWish ty_none)
theorem iq_NoRow {K : PySem.W.Frag} {mg : Str → Option Value} (T : Facts K mg) : IsOk K mg q_NoRow (.ref T.x_NoRow) := is_ok (ex_and T.mx_NoBench T.kit_NoBench_NoRow T.xis_NoBench (ex_none)) (ty_and T.kn_NoRow ty_none)
theorem iq_Unknown {K : PySem.W.Frag} {mg : Str → Option Value} (T : Facts K mg) : IsOk K mg q_Unknown (.ref T.x_Unknown) := is_ok (ex_and T.mx_NoBench T.kit_NoBench_Unknown T.xis_NoBench (ex_none)) (ty_and T.kn_Unknown ty_none)
theorem gx_NoBench {P : Program} {w : World} {K : PySem.W.Frag} {mg : Str → Option Value} {base : Heap} (T : Facts K mg) : FnOk P w K mg base (L2N.CX P w) 2 T.xI_NoBench T.xfd_NoBench ["self", "at"] (atSp K) := T.XF_NoBench.okN sc_NoBenchu_initu atSp_len fun cdv A outer s H vs Q E hr h => at_ok h (pss_cons (ps_expr (pe_binit rfl T.mx_BenchError T.xbase_NoBench (pa_cons (pe_var (i := 0) rfl (.inl rfl)) (pa_cons pe_str pa_nil)))) (pss_one (ps_ost (pe_var (i := 0) rfl (.inl rfl)) (pe_var (i := 1) rfl (.inl rfl)))))

/-! ### each def keeps to it -/
section
variable {P : Program} {w : World} {K : PySem.W.Frag} {mg : Str → Option Value} {base : Heap}
theorem d_ulaw_drawn (T : Facts K mg) : FnOk P w K mg base (L2N.CX P w) 1 T.a_ulaw_drawn T.f_ulaw_drawn p_ulaw_drawn (spD ⟨K, mg⟩ none p_ulaw_drawn.length F_ulaw_drawn) :=
  fn_data0 (k := 0) (B := B_ulaw_drawn) (N := N_ulaw_drawn) (ps := p_ulaw_drawn) (st := s_ulaw_drawn) T.F_ulaw_drawn sc_ulaw_drawn (by decide) fun cdv A outer s H E hr tk =>
  dss_one (ds_ret (de_lst (dd_cons (de_var (i := 1) rfl (.inl rfl)) (dd_cons (de_op od_add (de_sl (de_var (i := 0) rfl (.inl rfl)) (dp_none) (dp_some (de_int))) (de_lst (dd_cons (de_var (i := 1) rfl (.inl rfl)) (dd_nil)))) (dd_cons (de_int) (dd_nil))))))

theorem d_ulaw_draw (T : Facts K mg) : FnOk P w K mg base (L2N.CX P w) 1 T.a_ulaw_draw T.f_ulaw_draw p_ulaw_draw (spD ⟨K, mg⟩ (some 0) p_ulaw_draw.length F_ulaw_draw) :=
  fn_dataM (j := 0) (k := 0) (B := B_ulaw_draw) (N := N_ulaw_draw) (ps := p_ulaw_draw) (st := s_ulaw_draw) T.F_ulaw_draw sc_ulaw_draw (by decide) fun cdv A outer s H E v hr tk =>
  dss_cons (ds_set (i := 2) sc_ulaw_draw.nd rfl (.inl rfl) (de_ix (de_var (i := 0) rfl (.inl rfl)) (de_int) (fun _ _ => rfl)))
  (dss_cons (ds_ix (i := 0) rfl (.inl rfl) (de_int) (de_op od_add (de_ix (de_var (i := 0) rfl (.inl rfl)) (de_int) (fun _ _ => rfl)) (de_int)))
  (dss_cons (ds_set (i := 3) sc_ulaw_draw.nd rfl (.inl rfl) (de_op od_add (de_op od_mul (de_ix (de_var (i := 0) rfl (.inl rfl)) (de_int) (fun _ _ => rfl)) (de_int)) (de_op od_mod (de_ix (de_var (i := 2) rfl (.inl rfl)) (de_op od_mod (de_ix (de_var (i := 0) rfl (.inl rfl)) (de_int) (fun _ _ => rfl)) (de_callB (cd_len) rfl T.z_len bt_len (da_cons (de_var (i := 2) rfl (.inl rfl)) (da_nil)))) (fun _ _ => rfl)) (de_int))))
  (dss_cons (ds_ix (i := 0) rfl (.inl rfl) (de_int) (de_op od_mod (de_op od_add (de_var (i := 3) rfl (.inl rfl)) (de_ix (de_var (i := 0) rfl (.inl rfl)) (de_int) (fun _ _ => rfl))) (de_int)))
  (dss_one (ds_ret (de_op od_mod (de_op od_div (de_ix (de_var (i := 0) rfl (.inl rfl)) (de_int) (fun _ _ => rfl)) (de_int)) (de_var (i := 1) rfl (.inl rfl))))))))

theorem d_ulaw_low (T : Facts K mg) : FnOk P w K mg base (L2N.CX P w) 1 T.a_ulaw_low T.f_ulaw_low p_ulaw_low (spD ⟨K, mg⟩ none p_ulaw_low.length F_ulaw_low) :=
  fn_data0 (k := 0) (B := B_ulaw_low) (N := N_ulaw_low) (ps := p_ulaw_low) (st := s_ulaw_low) T.F_ulaw_low sc_ulaw_low (by decide) fun cdv A outer s H E hr tk =>
  dss_cons (ds_set (i := 2) sc_ulaw_low.nd rfl (.inl rfl) (de_callB (cd_abs) rfl T.z_abs bt_abs (da_cons (de_var (i := 0) rfl (.inl rfl)) (da_nil))))
  (dss_cons (ds_set (i := 3) sc_ulaw_low.nd rfl (.inl rfl) (de_var (i := 1) rfl (.inl rfl)))
  (dss_cons (ds_while (passes_of rfl) (dt_cmp od_gt (de_var (i := 3) rfl (.inl rfl)) (de_int) (nomark _)) (dss_one (ds_par (i := 2) (j := 3) rfl sc_ulaw_low.nd rfl rfl (by decide) rfl rfl (dd_cons (de_var (i := 3) rfl (.inl rfl)) (dd_cons (de_op od_mod (de_var (i := 2) rfl (.inl rfl)) (de_var (i := 3) rfl (.inl rfl))) (dd_nil))) rfl)))
  (dss_one (ds_ret (de_tup (dd_cons (de_op od_div (de_var (i := 0) rfl (.inl rfl)) (de_var (i := 2) rfl (.inl rfl))) (dd_cons (de_op od_div (de_var (i := 1) rfl (.inl rfl)) (de_var (i := 2) rfl (.inl rfl))) (dd_nil))))))))

theorem d_ulaw_part (T : Facts K mg) : FnOk P w K mg base (L2N.CX P w) 2 T.a_ulaw_part T.f_ulaw_part p_ulaw_part (spD ⟨K, mg⟩ (some 0) p_ulaw_part.length F_ulaw_part) :=
  fn_dataM (j := 0) (k := 1) (B := B_ulaw_part) (N := N_ulaw_part) (ps := p_ulaw_part) (st := s_ulaw_part) T.F_ulaw_part sc_ulaw_part (by decide) fun cdv A outer s H E v hr tk =>
  dss_cons (ds_if (dt_bool (dw_and (dt_val (de_var (i := 1) rfl (.inl rfl))) (dw_and1 (dt_cmp (od_eq (hu65 hr)) (de_call (m := (some 0)) (F := F_ulaw_draw) (d_ulaw_draw T) (hr.mono (by decide)) rfl T.m_ulaw_draw T.k_ulaw_draw T.b_ulaw_draw tk (da_cons (de_var (i := 0) rfl (.inl rfl)) (da_cons (de_int) (da_nil)))) (de_int) (nomark _))))) (dss_cons (ds_set (i := 2) sc_ulaw_part.nd rfl (.inl rfl) (de_op od_add (de_op od_mul (de_call (m := (some 0)) (F := F_ulaw_draw) (d_ulaw_draw T) (hr.mono (by decide)) rfl T.m_ulaw_draw T.k_ulaw_draw T.b_ulaw_draw tk (da_cons (de_var (i := 0) rfl (.inl rfl)) (da_cons (de_int) (da_nil)))) (de_int)) (de_call (m := (some 0)) (F := F_ulaw_draw) (d_ulaw_draw T) (hr.mono (by decide)) rfl T.m_ulaw_draw T.k_ulaw_draw T.b_ulaw_draw tk (da_cons (de_var (i := 0) rfl (.inl rfl)) (da_cons (de_int) (da_nil))))))
  (dss_cons (ds_set (i := 3) sc_ulaw_part.nd rfl (.inl rfl) (de_op od_add (de_op od_mul (de_call (m := (some 0)) (F := F_ulaw_draw) (d_ulaw_draw T) (hr.mono (by decide)) rfl T.m_ulaw_draw T.k_ulaw_draw T.b_ulaw_draw tk (da_cons (de_var (i := 0) rfl (.inl rfl)) (da_cons (de_int) (da_nil)))) (de_int)) (de_call (m := (some 0)) (F := F_ulaw_draw) (d_ulaw_draw T) (hr.mono (by decide)) rfl T.m_ulaw_draw T.k_ulaw_draw T.b_ulaw_draw tk (da_cons (de_var (i := 0) rfl (.inl rfl)) (da_cons (de_int) (da_nil))))))
  (dss_one (ds_ret (de_call (m := none) (F := F_ulaw_low) (d_ulaw_low T) (hr.mono (by decide)) rfl T.m_ulaw_low T.k_ulaw_low T.b_ulaw_low tk (da_cons (de_op od_add (de_op od_sub (de_op od_mod (de_var (i := 2) rfl (.inl rfl)) (de_op od_sub (de_op od_mul (de_int) (de_op od_pow (de_int) (de_int))) (de_int))) (de_op od_pow (de_int) (de_int))) (de_int)) (da_cons (de_op od_add (de_int) (de_op od_mod (de_var (i := 3) rfl (.inl rfl)) (de_op od_sub (de_op od_pow (de_int) (de_int)) (de_int)))) (da_nil)))))))) (dss_nil))
  (dss_cons (ds_set (i := 2) sc_ulaw_part.nd rfl (.inl rfl) (de_call (m := (some 0)) (F := F_ulaw_draw) (d_ulaw_draw T) (hr.mono (by decide)) rfl T.m_ulaw_draw T.k_ulaw_draw T.b_ulaw_draw tk (da_cons (de_var (i := 0) rfl (.inl rfl)) (da_cons (de_ix (de_lst (dd_cons (de_int) (dd_cons (de_int) (dd_nil)))) (de_callTy (cd_int) rfl T.z_int bt_int (da_cons (de_cmp (od_eq (hu65 hr)) (de_call (m := (some 0)) (F := F_ulaw_draw) (d_ulaw_draw T) (hr.mono (by decide)) rfl T.m_ulaw_draw T.k_ulaw_draw T.b_ulaw_draw tk (da_cons (de_var (i := 0) rfl (.inl rfl)) (da_cons (de_int) (da_nil)))) (de_int) (nomark _)) (da_nil))) (fun _ _ => rfl)) (da_nil)))))
  (dss_cons (ds_set (i := 3) sc_ulaw_part.nd rfl (.inl rfl) (de_op od_add (de_int) (de_ix (de_lst (dd_cons (de_int) (dd_cons (de_int) (dd_cons (de_call (m := (some 0)) (F := F_ulaw_draw) (d_ulaw_draw T) (hr.mono (by decide)) rfl T.m_ulaw_draw T.k_ulaw_draw T.b_ulaw_draw tk (da_cons (de_var (i := 0) rfl (.inl rfl)) (da_cons (de_int) (da_nil)))) (dd_cons (de_call (m := (some 0)) (F := F_ulaw_draw) (d_ulaw_draw T) (hr.mono (by decide)) rfl T.m_ulaw_draw T.k_ulaw_draw T.b_ulaw_draw tk (da_cons (de_var (i := 0) rfl (.inl rfl)) (da_cons (de_int) (da_nil)))) (dd_nil)))))) (de_call (m := (some 0)) (F := F_ulaw_draw) (d_ulaw_draw T) (hr.mono (by decide)) rfl T.m_ulaw_draw T.k_ulaw_draw T.b_ulaw_draw tk (da_cons (de_var (i := 0) rfl (.inl rfl)) (da_cons (de_int) (da_nil)))) (fun _ _ => rfl))))
  (dss_cons (ds_if (dt_cmp (od_eq (hu65 hr)) (de_call (m := (some 0)) (F := F_ulaw_draw) (d_ulaw_draw T) (hr.mono (by decide)) rfl T.m_ulaw_draw T.k_ulaw_draw T.b_ulaw_draw tk (da_cons (de_var (i := 0) rfl (.inl rfl)) (da_cons (de_int) (da_nil)))) (de_int) (nomark _)) (dss_one (ds_set (i := 2) sc_ulaw_part.nd rfl (.inl rfl) (de_op od_sub (de_int) (de_var (i := 2) rfl (.inl rfl))))) (dss_nil))
  (dss_one (ds_ret (de_call (m := none) (F := F_ulaw_low) (d_ulaw_low T) (hr.mono (by decide)) rfl T.m_ulaw_low T.k_ulaw_low T.b_ulaw_low tk (da_cons (de_var (i := 2) rfl (.inl rfl)) (da_cons (de_var (i := 3) rfl (.inl rfl)) (da_nil)))))))))

theorem d_ulaw_under (T : Facts K mg) : FnOk P w K mg base (L2N.CX P w) 1 T.a_ulaw_under T.f_ulaw_under p_ulaw_under (spD ⟨K, mg⟩ none p_ulaw_under.length F_ulaw_under) :=
  fn_data0 (k := 0) (B := B_ulaw_under) (N := N_ulaw_under) (ps := p_ulaw_under) (st := s_ulaw_under) T.F_ulaw_under sc_ulaw_under (by decide) fun cdv A outer s H E hr tk =>
  dss_one (ds_ret (de_cmp od_lt (de_op od_mul (de_ix (de_var (i := 0) rfl (.inl rfl)) (de_int) (fun _ _ => rfl)) (de_ix (de_var (i := 1) rfl (.inl rfl)) (de_int) (fun _ _ => rfl))) (de_op od_mul (de_ix (de_var (i := 1) rfl (.inl rfl)) (de_int) (fun _ _ => rfl)) (de_ix (de_var (i := 0) rfl (.inl rfl)) (de_int) (fun _ _ => rfl))) (nomark _)))

theorem d_ulaw_piece (T : Facts K mg) : FnOk P w K mg base (L2N.CX P w) 3 T.a_ulaw_piece T.f_ulaw_piece p_ulaw_piece (spD ⟨K, mg⟩ (some 0) p_ulaw_piece.length F_ulaw_piece) :=
  fn_dataM (j := 0) (k := 2) (B := B_ulaw_piece) (N := N_ulaw_piece) (ps := p_ulaw_piece) (st := s_ulaw_piece) T.F_ulaw_piece sc_ulaw_piece (by decide) fun cdv A outer s H E v hr tk =>
  dss_cons (ds_set (i := 2) sc_ulaw_piece.nd rfl (.inl rfl) (de_call (m := (some 0)) (F := F_ulaw_draw) (d_ulaw_draw T) (hr.mono (by decide)) rfl T.m_ulaw_draw T.k_ulaw_draw T.b_ulaw_draw tk (da_cons (de_var (i := 0) rfl (.inl rfl)) (da_cons (de_int) (da_nil)))))
  (dss_cons (ds_set (i := 3) sc_ulaw_piece.nd rfl (.inl rfl) (de_call (m := (some 0)) (F := F_ulaw_part) (d_ulaw_part T) (hr.mono (by decide)) rfl T.m_ulaw_part T.k_ulaw_part T.b_ulaw_part tk (da_cons (de_var (i := 0) rfl (.inl rfl)) (da_cons (de_var (i := 1) rfl (.inl rfl)) (da_nil)))))
  (dss_cons (ds_if (dt_cmp od_lt (de_var (i := 2) rfl (.inl rfl)) (de_int) (nomark _)) (dss_one (ds_ret (de_tup (dd_cons (de_str) (dd_cons (de_var (i := 3) rfl (.inl rfl)) (dd_nil)))))) (dss_nil))
  (dss_cons (ds_if (dt_cmp od_lt (de_var (i := 2) rfl (.inl rfl)) (de_int) (nomark _)) (dss_one (ds_ret (de_tup (dd_cons (de_str) (dd_cons (de_var (i := 3) rfl (.inl rfl)) (dd_nil)))))) (dss_nil))
  (dss_cons (ds_set (i := 4) sc_ulaw_piece.nd rfl (.inl rfl) (de_call (m := (some 0)) (F := F_ulaw_part) (d_ulaw_part T) (hr.mono (by decide)) rfl T.m_ulaw_part T.k_ulaw_part T.b_ulaw_part tk (da_cons (de_var (i := 0) rfl (.inl rfl)) (da_cons (de_var (i := 1) rfl (.inl rfl)) (da_nil)))))
  (dss_cons (ds_if (dt_val (de_call (m := none) (F := F_ulaw_under) (d_ulaw_under T) (hr.mono (by decide)) rfl T.m_ulaw_under T.k_ulaw_under T.b_ulaw_under tk (da_cons (de_var (i := 4) rfl (.inl rfl)) (da_cons (de_var (i := 3) rfl (.inl rfl)) (da_nil))))) (dss_one (ds_par (i := 3) (j := 4) rfl sc_ulaw_piece.nd rfl rfl (by decide) rfl rfl (dd_cons (de_var (i := 4) rfl (.inl rfl)) (dd_cons (de_var (i := 3) rfl (.inl rfl)) (dd_nil))) rfl)) (dss_nil))
  (dss_one (ds_ret (de_tup (dd_cons (de_str) (dd_cons (de_var (i := 3) rfl (.inl rfl)) (dd_cons (de_var (i := 4) rfl (.inl rfl)) (dd_nil))))))))))))

theorem d_ulaw_cell_at (T : Facts K mg) : FnOk P w K mg base (L2N.CX P w) 1 T.a_ulaw_cell_at T.f_ulaw_cell_at p_ulaw_cell_at (spD ⟨K, mg⟩ none p_ulaw_cell_at.length F_ulaw_cell_at) :=
  fn_data0 (k := 0) (B := B_ulaw_cell_at) (N := N_ulaw_cell_at) (ps := p_ulaw_cell_at) (st := s_ulaw_cell_at) T.F_ulaw_cell_at sc_ulaw_cell_at (by decide) fun cdv A outer s H E hr tk =>
  dss_cons (ds_if (dt_cmp od_lt (de_var (i := 1) rfl (.inl rfl)) (de_callB (cd_len) rfl T.z_len bt_len (da_cons (de_var (i := 0) rfl (.inl rfl)) (da_nil))) (nomark _)) (dss_one (ds_ret (de_ix (de_var (i := 0) rfl (.inl rfl)) (de_var (i := 1) rfl (.inl rfl)) (fun _ _ => rfl)))) (dss_nil))
  (dss_one (ds_ret (de_int)))

theorem d_is_whole (T : Facts K mg) : FnOk P w K mg base (L2N.CX P w) 1 T.a_is_whole T.f_is_whole p_is_whole (spD ⟨K, mg⟩ none p_is_whole.length F_is_whole) :=
  fn_data0 (k := 0) (B := B_is_whole) (N := N_is_whole) (ps := p_is_whole) (st := s_is_whole) T.F_is_whole sc_is_whole (by decide) fun cdv A outer s H E hr tk =>
  dss_one (ds_ret (de_and (de_isiB (T := "int") rfl T.z_isinstance bt_isinstance (de_var (i := 0) rfl (.inl rfl)) rfl T.z_int bt_int) (de_one (de_not (de_isiB (T := "bool") rfl T.z_isinstance bt_isinstance (de_var (i := 0) rfl (.inl rfl)) rfl T.z_bool bt_bool)))))

theorem d_shared_by (T : Facts K mg) : FnOk P w K mg base (L2N.CX P w) 1 T.a_shared_by T.f_shared_by p_shared_by (spD ⟨K, mg⟩ none p_shared_by.length F_shared_by) :=
  fn_data0 (k := 0) (B := B_shared_by) (N := N_shared_by) (ps := p_shared_by) (st := s_shared_by) T.F_shared_by sc_shared_by (by decide) fun cdv A outer s H E hr tk =>
  dss_cons (ds_set (i := 0) sc_shared_by.nd rfl (.inl rfl) (de_callB (cd_abs) rfl T.z_abs bt_abs (da_cons (de_var (i := 0) rfl (.inl rfl)) (da_nil))))
  (dss_cons (ds_set (i := 1) sc_shared_by.nd rfl (.inl rfl) (de_callB (cd_abs) rfl T.z_abs bt_abs (da_cons (de_var (i := 1) rfl (.inl rfl)) (da_nil))))
  (dss_cons (ds_while (passes_of rfl) (dt_cmp od_gt (de_var (i := 1) rfl (.inl rfl)) (de_int) (nomark _)) (dss_one (ds_par (i := 0) (j := 1) rfl sc_shared_by.nd rfl rfl (by decide) rfl rfl (dd_cons (de_var (i := 1) rfl (.inl rfl)) (dd_cons (de_op od_mod (de_var (i := 0) rfl (.inl rfl)) (de_var (i := 1) rfl (.inl rfl))) (dd_nil))) rfl)))
  (dss_one (ds_ret (de_var (i := 0) rfl (.inl rfl))))))

theorem d_is_ratio (T : Facts K mg) : FnOk P w K mg base (L2N.CX P w) 2 T.a_is_ratio T.f_is_ratio p_is_ratio (spD ⟨K, mg⟩ none p_is_ratio.length F_is_ratio) :=
  fn_data0 (k := 1) (B := B_is_ratio) (N := N_is_ratio) (ps := p_is_ratio) (st := s_is_ratio) T.F_is_ratio sc_is_ratio (by decide) fun cdv A outer s H E hr tk =>
  dss_cons (ds_if (dt_bool (dw_or (dt_not (dt_val (de_isiB (T := "tuple") rfl T.z_isinstance bt_isinstance (de_var (i := 0) rfl (.inl rfl)) rfl T.z_tuple bt_tuple))) (dw_or (dt_cmp (od_ne (hu65 hr)) (de_callB (cd_len) rfl T.z_len bt_len (da_cons (de_var (i := 0) rfl (.inl rfl)) (da_nil))) (de_int) (nomark _)) (dw_or (dt_not (dt_val (de_call (m := none) (F := F_is_whole) (d_is_whole T) (hr.mono (by decide)) rfl T.m_is_whole T.k_is_whole T.b_is_whole tk (da_cons (de_ix (de_var (i := 0) rfl (.inl rfl)) (de_int) (fun _ _ => rfl)) (da_nil))))) (dw_or1 (dt_not (dt_val (de_call (m := none) (F := F_is_whole) (d_is_whole T) (hr.mono (by decide)) rfl T.m_is_whole T.k_is_whole T.b_is_whole tk (da_cons (de_ix (de_var (i := 0) rfl (.inl rfl)) (de_int) (fun _ _ => rfl)) (da_nil)))))))))) (dss_one (ds_ret (de_bl))) (dss_nil))
  (dss_one (ds_ret (de_and (de_cmp od_gt (de_ix (de_var (i := 0) rfl (.inl rfl)) (de_int) (fun _ _ => rfl)) (de_int) (nomark _)) (de_one (de_cmp (od_eq (hu65 hr)) (de_call (m := none) (F := F_shared_by) (d_shared_by T) (hr.mono (by decide)) rfl T.m_shared_by T.k_shared_by T.b_shared_by tk (da_cons (de_ix (de_var (i := 0) rfl (.inl rfl)) (de_int) (fun _ _ => rfl)) (da_cons (de_ix (de_var (i := 0) rfl (.inl rfl)) (de_int) (fun _ _ => rfl)) (da_nil)))) (de_int) (nomark _))))))

theorem d_is_less (T : Facts K mg) : FnOk P w K mg base (L2N.CX P w) 1 T.a_is_less T.f_is_less p_is_less (spD ⟨K, mg⟩ none p_is_less.length F_is_less) :=
  fn_data0 (k := 0) (B := B_is_less) (N := N_is_less) (ps := p_is_less) (st := s_is_less) T.F_is_less sc_is_less (by decide) fun cdv A outer s H E hr tk =>
  dss_one (ds_ret (de_cmp od_lt (de_op od_mul (de_ix (de_var (i := 0) rfl (.inl rfl)) (de_int) (fun _ _ => rfl)) (de_ix (de_var (i := 1) rfl (.inl rfl)) (de_int) (fun _ _ => rfl))) (de_op od_mul (de_ix (de_var (i := 1) rfl (.inl rfl)) (de_int) (fun _ _ => rfl)) (de_ix (de_var (i := 0) rfl (.inl rfl)) (de_int) (fun _ _ => rfl))) (nomark _)))

theorem d_is_piece (T : Facts K mg) : FnOk P w K mg base (L2N.CX P w) 3 T.a_is_piece T.f_is_piece p_is_piece (spD ⟨K, mg⟩ none p_is_piece.length F_is_piece) :=
  fn_data0 (k := 2) (B := B_is_piece) (N := N_is_piece) (ps := p_is_piece) (st := s_is_piece) T.F_is_piece sc_is_piece (by decide) fun cdv A outer s H E hr tk =>
  dss_cons (ds_if (dt_bool (dw_or (dt_not (dt_val (de_isiB (T := "tuple") rfl T.z_isinstance bt_isinstance (de_var (i := 0) rfl (.inl rfl)) rfl T.z_tuple bt_tuple))) (dw_or (dt_cmp od_lt (de_callB (cd_len) rfl T.z_len bt_len (da_cons (de_var (i := 0) rfl (.inl rfl)) (da_nil))) (de_int) (nomark _)) (dw_or1 (dt_not (dt_val (de_isiB (T := "str") rfl T.z_isinstance bt_isinstance (de_ix (de_var (i := 0) rfl (.inl rfl)) (de_int) (fun _ _ => rfl)) rfl T.z_str bt_str))))))) (dss_one (ds_ret (de_bl))) (dss_nil))
  (dss_cons (ds_if (dt_not (dt_val (de_callB (cd_all rfl) rfl T.z_all bt_all (da_cons (de_lc (own := [("part", 1)]) (sl := [1]) rfl sc_is_piece.nd (blkOk_by (N := N_is_piece) (sc := defScope s_is_piece) (by decide +kernel)) (di_seq (de_sl (de_var (i := 0) rfl (.inl rfl)) (dp_some (de_int)) (dp_none))) (fun _ _ _ _ _ => dg_name (i := 1) sc_is_piece.nd rfl (.inl rfl)) (fun _ _ _ _ _ => dts_nil) (fun _ _ _ _ _ => de_call (m := none) (F := F_is_ratio) (d_is_ratio T) (hr.mono (by decide)) rfl T.m_is_ratio T.k_is_ratio T.b_is_ratio takesN (da_cons (de_var (i := 1) rfl (.inl rfl)) (da_nil)))) (da_nil))))) (dss_one (ds_ret (de_bl))) (dss_nil))
  (dss_cons (ds_if (dt_cmp (od_eq (hu65 hr)) (de_ix (de_var (i := 0) rfl (.inl rfl)) (de_int) (fun _ _ => rfl)) (de_str) (nomark _)) (dss_one (ds_ret (de_and (de_cmp (od_eq (hu65 hr)) (de_callB (cd_len) rfl T.z_len bt_len (da_cons (de_var (i := 0) rfl (.inl rfl)) (da_nil))) (de_int) (nomark _)) (de_one (de_not (de_call (m := none) (F := F_is_less) (d_is_less T) (hr.mono (by decide)) rfl T.m_is_less T.k_is_less T.b_is_less tk (da_cons (de_ix (de_var (i := 0) rfl (.inl rfl)) (de_int) (fun _ _ => rfl)) (da_cons (de_ix (de_var (i := 0) rfl (.inl rfl)) (de_int) (fun _ _ => rfl)) (da_nil))))))))) (dss_nil))
  (dss_one (ds_ret (de_and (de_cmp (od_eq (hu65 hr)) (de_callB (cd_len) rfl T.z_len bt_len (da_cons (de_var (i := 0) rfl (.inl rfl)) (da_nil))) (de_int) (nomark _)) (de_one (de_or (de_cmp (od_eq (hu65 hr)) (de_ix (de_var (i := 0) rfl (.inl rfl)) (de_int) (fun _ _ => rfl)) (de_str) (nomark _)) (de_one (de_cmp (od_eq (hu65 hr)) (de_ix (de_var (i := 0) rfl (.inl rfl)) (de_int) (fun _ _ => rfl)) (de_str) (nomark _))))))))))

theorem d_look_at (T : Facts K mg) : FnOk P w K mg base (L2N.CX P w) 4 T.a_look_at T.f_look_at p_look_at (spD ⟨K, mg⟩ none p_look_at.length F_look_at) :=
  fn_data0 (k := 3) (B := B_look_at) (N := N_look_at) (ps := p_look_at) (st := s_look_at) T.F_look_at sc_look_at (by decide) fun cdv A outer s H E hr tk =>
  dss_cons (ds_if (dt_bool (dw_or (dt_not (dt_val (de_isiB (T := "list") rfl T.z_isinstance bt_isinstance (de_var (i := 0) rfl (.inl rfl)) rfl T.z_list bt_list))) (dw_or1 (dt_cmp od_gt (de_callB (cd_len) rfl T.z_len bt_len (da_cons (de_var (i := 0) rfl (.inl rfl)) (da_nil))) (de_kon rfl T.c_MOST) (nomark _))))) (dss_one (ds_raiseA rfl tk T.xo_NoBench T.xi_NoBench T.xt_NoBench T.xn_NoBench (gx_NoBench T) (hr.mono (by decide)) T.xb_NoBench rfl T.mx_NoBench (dd_cons (de_non) (dd_nil)))) (dss_nil))
  (dss_one (ds_for (sl := [1, 2]) (passes_of rfl) rfl (di_enum rfl T.z_enumerate (dd_cons (de_var (i := 0) rfl (.inl rfl)) (dd_nil))) (dg_tup rfl (dgs_cons (s1 := [1]) (dg_name (i := 1) sc_look_at.nd rfl (.inl rfl)) (dgs_cons (s1 := [2]) (dg_name (i := 2) sc_look_at.nd rfl (.inl rfl)) (dgs_nil))) ((fun _ _ _ z => tgCons_len (fun _ _ _ z => tgCons_len (fun _ _ _ z => tgNil_len z) z) z))) (dss_one (ds_if (dt_not (dt_val (de_call (m := none) (F := F_is_piece) (d_is_piece T) (hr.mono (by decide)) rfl T.m_is_piece T.k_is_piece T.b_is_piece tk (da_cons (de_var (i := 2) rfl (.inl rfl)) (da_nil))))) (dss_one (ds_raiseA rfl tk T.xo_NoBench T.xi_NoBench T.xt_NoBench T.xn_NoBench (gx_NoBench T) (hr.mono (by decide)) T.xb_NoBench rfl T.mx_NoBench (dd_cons (de_var (i := 1) rfl (.inl rfl)) (dd_nil)))) (dss_nil)))))

theorem d_ulaw_whole (T : Facts K mg) : FnOk P w K mg base (L2N.CX P w) 1 T.a_ulaw_whole T.f_ulaw_whole p_ulaw_whole (spD ⟨K, mg⟩ none p_ulaw_whole.length F_ulaw_whole) :=
  fn_data0 (k := 0) (B := B_ulaw_whole) (N := N_ulaw_whole) (ps := p_ulaw_whole) (st := s_ulaw_whole) T.F_ulaw_whole sc_ulaw_whole (by decide) fun cdv A outer s H E hr tk =>
  dss_one (ds_ret (de_and (de_isiB (T := "int") rfl T.z_isinstance bt_isinstance (de_var (i := 0) rfl (.inl rfl)) rfl T.z_int bt_int) (de_one (de_not (de_isiB (T := "bool") rfl T.z_isinstance bt_isinstance (de_var (i := 0) rfl (.inl rfl)) rfl T.z_bool bt_bool)))))

theorem d_ulaw_kinds (T : Facts K mg) : FnOk P w K mg base (L2N.CX P w) 1 T.a_ulaw_kinds T.f_ulaw_kinds p_ulaw_kinds (spD ⟨K, mg⟩ none p_ulaw_kinds.length F_ulaw_kinds) :=
  fn_data0 (k := 0) (B := B_ulaw_kinds) (N := N_ulaw_kinds) (ps := p_ulaw_kinds) (st := s_ulaw_kinds) T.F_ulaw_kinds sc_ulaw_kinds (by decide) fun cdv A outer s H E hr tk =>
  dss_cons (ds_set (i := 1) sc_ulaw_kinds.nd rfl (.inl rfl) (de_lst (dd_cons (de_isC (q := q_NoBench) rfl T.z_isinstance bt_isinstance (de_var (i := 0) rfl (.inl rfl)) (cl_own rfl T.mx_NoBench) (iq_NoBench T)) (dd_cons (de_isC (q := q_ValueError) rfl T.z_isinstance bt_isinstance (de_var (i := 0) rfl (.inl rfl)) (cl_ty rfl T.z_ValueError PyProof.Rows.Boot.«ValueError») (iq_ValueError T)) (dd_cons (de_isC (q := q_NoNumber) rfl T.z_isinstance bt_isinstance (de_var (i := 0) rfl (.inl rfl)) (cl_own rfl T.mx_NoNumber) (iq_NoNumber T)) (dd_cons (de_isC (q := q_NoText) rfl T.z_isinstance bt_isinstance (de_var (i := 0) rfl (.inl rfl)) (cl_own rfl T.mx_NoText) (iq_NoText T)) (dd_nil)))))))
  (dss_cons (ds_set (i := 1) sc_ulaw_kinds.nd rfl (.inl rfl) (de_op od_add (de_var (i := 1) rfl (.inl rfl)) (de_lst (dd_cons (de_isC (q := q_NoTable) rfl T.z_isinstance bt_isinstance (de_var (i := 0) rfl (.inl rfl)) (cl_own rfl T.mx_NoTable) (iq_NoTable T)) (dd_cons (de_isC (q := q_NoBox) rfl T.z_isinstance bt_isinstance (de_var (i := 0) rfl (.inl rfl)) (cl_own rfl T.mx_NoBox) (iq_NoBox T)) (dd_cons (de_isC (q := q_NoStock) rfl T.z_isinstance bt_isinstance (de_var (i := 0) rfl (.inl rfl)) (cl_own rfl T.mx_NoStock) (iq_NoStock T)) (dd_cons (de_isC (q := q_NoWish) rfl T.z_isinstance bt_isinstance (de_var (i := 0) rfl (.inl rfl)) (cl_own rfl T.mx_NoWish) (iq_NoWish T)) (dd_nil))))))))
  (dss_one (ds_ret (de_op od_add (de_var (i := 1) rfl (.inl rfl)) (de_lst (dd_cons (de_isC (q := q_NoRow) rfl T.z_isinstance bt_isinstance (de_var (i := 0) rfl (.inl rfl)) (cl_own rfl T.mx_NoRow) (iq_NoRow T)) (dd_cons (de_isC (q := q_Unknown) rfl T.z_isinstance bt_isinstance (de_var (i := 0) rfl (.inl rfl)) (cl_own rfl T.mx_Unknown) (iq_Unknown T)) (dd_nil))))))))
theorem dW_ulaw_kinds (T : Facts K mg) : FnW P w K mg base 1 T.a_ulaw_kinds T.f_ulaw_kinds p_ulaw_kinds (spD ⟨K, mg⟩ none p_ulaw_kinds.length F_ulaw_kinds) :=
  fn_dataW (k := 0) (B := B_ulaw_kinds) (N := N_ulaw_kinds) (ps := p_ulaw_kinds) (st := s_ulaw_kinds) T.F_ulaw_kinds sc_ulaw_kinds (by decide) fun cdv A outer s H hr =>
  dss_cons (ds_set (i := 1) sc_ulaw_kinds.nd rfl (.inl rfl) (de_lst (dd_cons (de_isC (q := q_NoBench) rfl T.z_isinstance bt_isinstance (de_var (i := 0) rfl (.inl rfl)) (cl_own rfl T.mx_NoBench) (iq_NoBench T)) (dd_cons (de_isC (q := q_ValueError) rfl T.z_isinstance bt_isinstance (de_var (i := 0) rfl (.inl rfl)) (cl_ty rfl T.z_ValueError PyProof.Rows.Boot.«ValueError») (iq_ValueError T)) (dd_cons (de_isC (q := q_NoNumber) rfl T.z_isinstance bt_isinstance (de_var (i := 0) rfl (.inl rfl)) (cl_own rfl T.mx_NoNumber) (iq_NoNumber T)) (dd_cons (de_isC (q := q_NoText) rfl T.z_isinstance bt_isinstance (de_var (i := 0) rfl (.inl rfl)) (cl_own rfl T.mx_NoText) (iq_NoText T)) (dd_nil)))))))
  (dss_cons (ds_set (i := 1) sc_ulaw_kinds.nd rfl (.inl rfl) (de_op od_add (de_var (i := 1) rfl (.inl rfl)) (de_lst (dd_cons (de_isC (q := q_NoTable) rfl T.z_isinstance bt_isinstance (de_var (i := 0) rfl (.inl rfl)) (cl_own rfl T.mx_NoTable) (iq_NoTable T)) (dd_cons (de_isC (q := q_NoBox) rfl T.z_isinstance bt_isinstance (de_var (i := 0) rfl (.inl rfl)) (cl_own rfl T.mx_NoBox) (iq_NoBox T)) (dd_cons (de_isC (q := q_NoStock) rfl T.z_isinstance bt_isinstance (de_var (i := 0) rfl (.inl rfl)) (cl_own rfl T.mx_NoStock) (iq_NoStock T)) (dd_cons (de_isC (q := q_NoWish) rfl T.z_isinstance bt_isinstance (de_var (i := 0) rfl (.inl rfl)) (cl_own rfl T.mx_NoWish) (iq_NoWish T)) (dd_nil))))))))
  (dss_one (ds_ret (de_op od_add (de_var (i := 1) rfl (.inl rfl)) (de_lst (dd_cons (de_isC (q := q_NoRow) rfl T.z_isinstance bt_isinstance (de_var (i := 0) rfl (.inl rfl)) (cl_own rfl T.mx_NoRow) (iq_NoRow T)) (dd_cons (de_isC (q := q_Unknown) rfl T.z_isinstance bt_isinstance (de_var (i := 0) rfl (.inl rfl)) (cl_own rfl T.mx_Unknown) (iq_Unknown T)) (dd_nil))))))))

theorem d_ulaw_refused (T : Facts K mg) : FnOk P w K mg base (L2N.CX P w) 5 T.a_ulaw_refused T.f_ulaw_refused p_ulaw_refused (spD ⟨K, mg⟩ none p_ulaw_refused.length F_ulaw_refused) :=
  fn_data0 (k := 4) (B := B_ulaw_refused) (N := N_ulaw_refused) (ps := p_ulaw_refused) (st := s_ulaw_refused) T.F_ulaw_refused sc_ulaw_refused (by decide) fun cdv A outer s H E hr tk =>
  dss_cons (ds_set (i := 2) sc_ulaw_refused.nd rfl (.inl rfl) (de_lst (dd_nil)))
  (dss_cons (ds_set (i := 3) sc_ulaw_refused.nd rfl (.inl rfl) (de_neg (de_int)))
  (dss_cons (ds_try rfl rfl rfl sc_ulaw_refused.nd tk (fun W1 pn xe tk1 po1 => dss_one (ds_expr (de_call (m := none) (F := F_look_at) (d_look_at T) (hr.mono (by decide)) rfl T.m_look_at T.k_look_at T.b_look_at tk1 (da_cons (de_var (i := 0) rfl (.inl rfl)) (da_nil))))) (.as (i := 4) ⟨rfl, by decide, .inl T.mx_BenchError⟩ (tbx_BenchError T) rfl rfl rfl (fun _ _ => dss_cons (ds_set (i := 2) sc_ulaw_refused.nd rfl (.inl rfl) (de_callW (m := none) (F := F_ulaw_kinds) (dW_ulaw_kinds T) (room_suite (hr.mono (by decide))) rfl T.m_ulaw_kinds T.k_ulaw_kinds T.b_ulaw_kinds (da_cons (de_var (i := 4) rfl (.inl rfl)) (da_nil))))
  (dss_one (ds_if (dt_val (de_ix (de_var (i := 2) rfl (.inl rfl)) (de_int) (fun _ _ => rfl))) (dss_one (ds_set (i := 3) sc_ulaw_refused.nd rfl (.inl rfl) (de_at (ns := atNs) (atN_ok T) (de_var (i := 4) rfl (.inl rfl))))) (dss_nil)))) (.nil)))
  (dss_cons (ds_if (dt_cmp (od_ne (hu65 hr)) (de_var (i := 2) rfl (.inl rfl)) (de_op od_add (de_lst (dd_cons (de_bl) (dd_cons (de_bl) (dd_nil)))) (de_rep (de_lst (dd_cons (de_bl) (dd_nil))) (de_int))) (nomark _)) (dss_one (ds_ret (de_bl))) (dss_nil))
  (dss_cons (ds_if (dt_cmp od_is (de_var (i := 1) rfl (.inl rfl)) (de_non) (nomark _)) (dss_one (ds_ret (de_cmp od_is (de_var (i := 3) rfl (.inl rfl)) (de_non) (nomark _)))) (dss_nil))
  (dss_one (ds_ret (de_and (de_call (m := none) (F := F_ulaw_whole) (d_ulaw_whole T) (hr.mono (by decide)) rfl T.m_ulaw_whole T.k_ulaw_whole T.b_ulaw_whole tk (da_cons (de_var (i := 3) rfl (.inl rfl)) (da_nil))) (de_one (de_cmp (od_eq (hu65 hr)) (de_var (i := 3) rfl (.inl rfl)) (de_var (i := 1) rfl (.inl rfl)) (nomark _))))))))))

theorem d_ulaw_wrong (T : Facts K mg) : FnOk P w K mg base (L2N.CX P w) 1 T.a_ulaw_wrong T.f_ulaw_wrong p_ulaw_wrong (spD ⟨K, mg⟩ none p_ulaw_wrong.length F_ulaw_wrong) :=
  fn_data0 (k := 0) (B := B_ulaw_wrong) (N := N_ulaw_wrong) (ps := p_ulaw_wrong) (st := s_ulaw_wrong) T.F_ulaw_wrong sc_ulaw_wrong (by decide) fun cdv A outer s H E hr tk =>
  dss_cons (ds_set (i := 2) sc_ulaw_wrong.nd rfl (.inl rfl) (de_lst (dd_cons (de_callTy (cd_list) rfl T.z_list bt_list (da_cons (de_var (i := 0) rfl (.inl rfl)) (da_nil))) (dd_cons (de_int) (dd_cons (de_non) (dd_cons (de_str) (dd_cons (de_tup (dd_cons (de_ix (de_var (i := 0) rfl (.inl rfl)) (de_int) (fun _ _ => rfl)) (dd_nil))) (dd_cons (de_tup (dd_cons (de_ix (de_var (i := 0) rfl (.inl rfl)) (de_int) (fun _ _ => rfl)) (dd_cons (de_int) (dd_nil)))) (dd_cons (de_ix (de_var (i := 0) rfl (.inl rfl)) (de_int) (fun _ _ => rfl)) (dd_cons (de_op od_add (de_var (i := 0) rfl (.inl rfl)) (de_tup (dd_cons (de_int) (dd_nil)))) (dd_cons (de_tup (dd_cons (de_str) (dd_cons (de_tup (dd_cons (de_int) (dd_cons (de_int) (dd_nil)))) (dd_nil)))) (dd_cons (de_bl) (dd_nil)))))))))))))
  (dss_one (ds_ret (de_ix (de_op od_add (de_var (i := 2) rfl (.inl rfl)) (de_lst (dd_cons (de_tup (dd_cons (de_str) (dd_cons (de_tup (dd_cons (de_int) (dd_cons (de_int) (dd_nil)))) (dd_cons (de_tup (dd_cons (de_int) (dd_cons (de_int) (dd_nil)))) (dd_nil))))) (dd_cons (de_tup (dd_cons (de_str) (dd_cons (de_tup (dd_cons (de_int) (dd_cons (de_int) (dd_nil)))) (dd_nil)))) (dd_nil))))) (de_op od_mod (de_var (i := 1) rfl (.inl rfl)) (de_int)) (fun _ _ => rfl))))

theorem d_law (T : Facts K mg) : FnOk P w K mg base (L2N.CX P w) 6 T.a_law T.f_law p_law (spD ⟨K, mg⟩ none p_law.length F_law) :=
  fn_data0 (k := 5) (B := B_law) (N := N_law) (ps := p_law) (st := s_law) T.F_law sc_law (by decide) fun cdv A outer s H E hr tk =>
  dss_cons (ds_set (i := 1) sc_law.nd rfl (.inr rfl) (de_call (m := none) (F := F_ulaw_drawn) (d_ulaw_drawn T) (hr.mono (by decide)) rfl T.m_ulaw_drawn T.k_ulaw_drawn T.b_ulaw_drawn tk (da_cons (de_var (i := 0) rfl (.inl rfl)) (da_cons (de_int) (da_nil)))))
  (dss_cons (ds_set (i := 2) sc_law.nd rfl (.inr rfl) (de_cmp (od_eq (hu65 hr)) (de_op od_mod (de_call (m := none) (F := F_ulaw_cell_at) (d_ulaw_cell_at T) (hr.mono (by decide)) rfl T.m_ulaw_cell_at T.k_ulaw_cell_at T.b_ulaw_cell_at tk (da_cons (de_var (i := 0) rfl (.inl rfl)) (da_cons (de_int) (da_nil)))) (de_int)) (de_int) (nomark _)))
  (dss_cons (ds_set (i := 3) sc_law.nd rfl (.inl rfl) (de_ix (de_lst (dd_cons (de_call (m := (some 0)) (F := F_ulaw_draw) (d_ulaw_draw T) (hr.mono (by decide)) rfl T.m_ulaw_draw T.k_ulaw_draw T.b_ulaw_draw tk (da_cons (de_var (i := 1) rfl (.inr (.inl rfl))) (da_cons (de_int) (da_nil)))) (dd_cons (de_call (m := (some 0)) (F := F_ulaw_draw) (d_ulaw_draw T) (hr.mono (by decide)) rfl T.m_ulaw_draw T.k_ulaw_draw T.b_ulaw_draw tk (da_cons (de_var (i := 1) rfl (.inr (.inl rfl))) (da_cons (de_int) (da_nil)))) (dd_cons (de_int) (dd_nil))))) (de_call (m := (some 0)) (F := F_ulaw_draw) (d_ulaw_draw T) (hr.mono (by decide)) rfl T.m_ulaw_draw T.k_ulaw_draw T.b_ulaw_draw tk (da_cons (de_var (i := 1) rfl (.inr (.inl rfl))) (da_cons (de_int) (da_nil)))) (fun _ _ => rfl)))
  (dss_cons (ds_setLc (i := 4) (own := [("_law_k", 12)]) (sl := [12]) rfl sc_law.nd rfl rfl rfl (blkOk_by (N := N_law) (sc := defScope s_law) (by decide +kernel)) (di_rng1 rfl T.z_range (dd_cons (de_var (i := 3) rfl (.inl rfl)) (dd_nil))) (fun _ _ _ _ _ => dg_name (i := 12) sc_law.nd rfl (.inl rfl)) (fun _ _ _ _ _ => dts_nil) (fun _ _ _ _ _ => de_call (m := (some 0)) (F := F_ulaw_piece) (d_ulaw_piece T) (hr.mono (by decide)) rfl T.m_ulaw_piece T.k_ulaw_piece T.b_ulaw_piece takesN (da_cons (de_var (i := 1) rfl (.inr (.inl rfl))) (da_cons (de_var (i := 2) rfl (.inr (.inl rfl))) (da_nil)))))
  (dss_cons (ds_setLc (i := 5) (own := [("_law_k", 12)]) (sl := [12]) rfl sc_law.nd rfl rfl rfl (blkOk_by (N := N_law) (sc := defScope s_law) (by decide +kernel)) (di_rng1 rfl T.z_range (dd_cons (de_int) (dd_nil))) (fun _ _ _ _ _ => dg_name (i := 12) sc_law.nd rfl (.inl rfl)) (fun _ _ _ _ _ => dts_nil) (fun _ _ _ _ _ => de_call (m := (some 0)) (F := F_ulaw_piece) (d_ulaw_piece T) (hr.mono (by decide)) rfl T.m_ulaw_piece T.k_ulaw_piece T.b_ulaw_piece takesN (da_cons (de_var (i := 1) rfl (.inr (.inl rfl))) (da_cons (de_var (i := 2) rfl (.inr (.inl rfl))) (da_nil)))))
  (dss_cons (ds_if (dt_bool (dw_or (dt_cmp od_isn (de_call (m := none) (F := F_look_at) (d_look_at T) (hr.mono (by decide)) rfl T.m_look_at T.k_look_at T.b_look_at tk (da_cons (de_var (i := 4) rfl (.inl rfl)) (da_nil))) (de_non) (nomark _)) (dw_or (dt_cmp od_isn (de_call (m := none) (F := F_look_at) (d_look_at T) (hr.mono (by decide)) rfl T.m_look_at T.k_look_at T.b_look_at tk (da_cons (de_lst (dd_nil)) (da_nil))) (de_non) (nomark _)) (dw_or1 (dt_cmp od_isn (de_call (m := none) (F := F_look_at) (d_look_at T) (hr.mono (by decide)) rfl T.m_look_at T.k_look_at T.b_look_at tk (da_cons (de_var (i := 5) rfl (.inl rfl)) (da_nil))) (de_non) (nomark _)))))) (dss_one (ds_ret (de_bl))) (dss_nil))
  (dss_cons (ds_for (sl := [6]) (passes_of rfl) rfl (di_seq (de_op od_add (de_sl (de_var (i := 0) rfl (.inl rfl)) (dp_some (de_int)) (dp_some (de_int))) (de_lst (dd_cons (de_callB (cd_len) rfl T.z_len bt_len (da_cons (de_var (i := 0) rfl (.inl rfl)) (da_nil))) (dd_nil))))) (dg_name (i := 6) sc_law.nd rfl (.inl rfl)) (dss_cons (ds_set (i := 7) sc_law.nd rfl (.inl rfl) (de_op od_div (de_op od_mod (de_op od_mul (de_var (i := 6) rfl (.inl rfl)) (de_int)) (de_int)) (de_int)))
  (dss_cons (ds_set (i := 8) sc_law.nd rfl (.inl rfl) (de_lst (dd_cons (de_callTy (cd_tuple) rfl T.z_tuple bt_tuple (da_cons (de_var (i := 4) rfl (.inl rfl)) (da_nil))) (dd_cons (de_dct0) (dd_cons (de_str) (dd_cons (de_non) (dd_cons (de_int) (dd_cons (de_bl) (dd_cons (de_tup (dd_nil)) (dd_cons (de_op od_add (de_var (i := 5) rfl (.inl rfl)) (de_lst (dd_cons (de_ix (de_var (i := 5) rfl (.inl rfl)) (de_int) (fun _ _ => rfl)) (dd_nil)))) (dd_cons (de_op od_add (de_var (i := 5) rfl (.inl rfl)) (de_lst (dd_cons (de_non) (dd_nil)))) (dd_cons (de_op od_add (de_lst (dd_cons (de_non) (dd_nil))) (de_var (i := 5) rfl (.inl rfl))) (dd_nil)))))))))))))
  (dss_cons (ds_if (dt_not (dt_val (de_call (m := none) (F := F_ulaw_refused) (d_ulaw_refused T) (hr.mono (by decide)) rfl T.m_ulaw_refused T.k_ulaw_refused T.b_ulaw_refused tk (da_cons (de_ix (de_var (i := 8) rfl (.inl rfl)) (de_op od_mod (de_var (i := 7) rfl (.inl rfl)) (de_int)) (fun _ _ => rfl)) (da_cons (de_non) (da_nil)))))) (dss_one (ds_ret (de_bl))) (dss_nil))
  (dss_cons (ds_if (dt_cmp (od_ne (hu65 hr)) (de_var (i := 4) rfl (.inl rfl)) (de_lst (dd_nil)) (nomark _)) (dss_cons (ds_set (i := 9) sc_law.nd rfl (.inl rfl) (de_op od_mod (de_op od_div (de_var (i := 7) rfl (.inl rfl)) (de_int)) (de_callB (cd_len) rfl T.z_len bt_len (da_cons (de_var (i := 4) rfl (.inl rfl)) (da_nil)))))
  (dss_cons (ds_set (i := 10) sc_law.nd rfl (.inl rfl) (de_op od_add (de_op od_add (de_sl (de_var (i := 4) rfl (.inl rfl)) (dp_none) (dp_some (de_var (i := 9) rfl (.inl rfl)))) (de_lst (dd_cons (de_call (m := none) (F := F_ulaw_wrong) (d_ulaw_wrong T) (hr.mono (by decide)) rfl T.m_ulaw_wrong T.k_ulaw_wrong T.b_ulaw_wrong tk (da_cons (de_ix (de_var (i := 4) rfl (.inl rfl)) (de_var (i := 9) rfl (.inl rfl)) (fun _ _ => rfl)) (da_cons (de_op od_div (de_var (i := 7) rfl (.inl rfl)) (de_int)) (da_nil)))) (dd_nil)))) (de_sl (de_var (i := 4) rfl (.inl rfl)) (dp_some (de_op od_add (de_var (i := 9) rfl (.inl rfl)) (de_int))) (dp_none))))
  (dss_cons (ds_if (dt_cmp (od_eq (hu65 hr)) (de_op od_mod (de_op od_div (de_var (i := 7) rfl (.inl rfl)) (de_int)) (de_int)) (de_int) (nomark _)) (dss_one (ds_sl (i := 10) rfl (.inl rfl) (de_op od_add (de_var (i := 9) rfl (.inl rfl)) (de_int)) (de_rep (de_lst (dd_cons (de_non) (dd_nil))) (de_callB (cd_len) rfl T.z_len bt_len (da_cons (de_sl (de_var (i := 10) rfl (.inl rfl)) (dp_some (de_op od_add (de_var (i := 9) rfl (.inl rfl)) (de_int))) (dp_none)) (da_nil)))))) (dss_nil))
  (dss_cons (ds_set (i := 11) sc_law.nd rfl (.inl rfl) (de_callTy (cd_list) rfl T.z_list bt_list (da_cons (de_var (i := 10) rfl (.inl rfl)) (da_nil))))
  (dss_one (ds_if (dt_bool (dw_or (dt_not (dt_val (de_call (m := none) (F := F_ulaw_refused) (d_ulaw_refused T) (hr.mono (by decide)) rfl T.m_ulaw_refused T.k_ulaw_refused T.b_ulaw_refused tk (da_cons (de_var (i := 11) rfl (.inl rfl)) (da_cons (de_var (i := 9) rfl (.inl rfl)) (da_nil)))))) (dw_or1 (dt_cmp (od_ne (hu65 hr)) (de_var (i := 11) rfl (.inl rfl)) (de_var (i := 10) rfl (.inl rfl)) (nomark _))))) (dss_one (ds_ret (de_bl))) (dss_nil))))))) (dss_nil))
  (dss_one (ds_if (dt_cmp od_isn (de_call (m := none) (F := F_look_at) (d_look_at T) (hr.mono (by decide)) rfl T.m_look_at T.k_look_at T.b_look_at tk (da_cons (de_callTy (cd_list) rfl T.z_list bt_list (da_cons (de_var (i := 4) rfl (.inl rfl)) (da_nil))) (da_nil))) (de_non) (nomark _)) (dss_one (ds_ret (de_bl))) (dss_nil))))))))
  (dss_one (ds_ret (de_bl)))))))))
end

theorem all_mk {P : Program} {w : World} {K : PySem.W.Frag} {h : Heap} {mg : Str → Option Value} {fa : Addr} (X : K.In h) (G : h.Ns mainGlobals mg) (hfa : mg "law" = some (.ref fa))
    {f0 : Addr} {od0 an0 : Option Addr} {sl0 : Array (Option Value)} {oc0 kV0 dc0 pm0 cd0 ct0 : Value} {f1 : Addr} {od1 an1 : Option Addr} {sl1 : Array (Option Value)} {oc1 kV1 dc1 pm1 cd1 ct1 : Value} {f2 : Addr} {od2 an2 : Option Addr} {sl2 : Array (Option Value)} {oc2 kV2 dc2 pm2 cd2 ct2 : Value} {f3 : Addr} {od3 an3 : Option Addr} {sl3 : Array (Option Value)} {oc3 kV3 dc3 pm3 cd3 ct3 : Value} {f4 : Addr} {od4 an4 : Option Addr} {sl4 : Array (Option Value)} {oc4 kV4 dc4 pm4 cd4 ct4 : Value} {f5 : Addr} {od5 an5 : Option Addr} {sl5 : Array (Option Value)} {oc5 kV5 dc5 pm5 cd5 ct5 : Value} {f6 : Addr} {od6 an6 : Option Addr} {sl6 : Array (Option Value)} {oc6 kV6 dc6 pm6 cd6 ct6 : Value} {f7 : Addr} {od7 an7 : Option Addr} {sl7 : Array (Option Value)} {oc7 kV7 dc7 pm7 cd7 ct7 : Value} {f8 : Addr} {od8 an8 : Option Addr} {sl8 : Array (Option Value)} {oc8 kV8 dc8 pm8 cd8 ct8 : Value} {f9 : Addr} {od9 an9 : Option Addr} {sl9 : Array (Option Value)} {oc9 kV9 dc9 pm9 cd9 ct9 : Value} {f10 : Addr} {od10 an10 : Option Addr} {sl10 : Array (Option Value)} {oc10 kV10 dc10 pm10 cd10 ct10 : Value} {f11 : Addr} {od11 an11 : Option Addr} {sl11 : Array (Option Value)} {oc11 kV11 dc11 pm11 cd11 ct11 : Value} {f12 : Addr} {od12 an12 : Option Addr} {sl12 : Array (Option Value)} {oc12 kV12 dc12 pm12 cd12 ct12 : Value} {f13 : Addr} {od13 an13 : Option Addr} {sl13 : Array (Option Value)} {oc13 kV13 dc13 pm13 cd13 ct13 : Value} {f14 : Addr} {od14 an14 : Option Addr} {sl14 : Array (Option Value)} {oc14 kV14 dc14 pm14 cd14 ct14 : Value} {f15 : Addr} {od15 an15 : Option Addr} {sl15 : Array (Option Value)} {oc15 kV15 dc15 pm15 cd15 ct15 : Value} {f16 : Addr} {od16 an16 : Option Addr} {sl16 : Array (Option Value)} {oc16 kV16 dc16 pm16 cd16 ct16 : Value} {f17 : Addr} {od17 an17 : Option Addr} {sl17 : Array (Option Value)} {oc17 kV17 dc17 pm17 cd17 ct17 : Value} {X0 : Addr} {X1 : Addr} {X2 : Addr} {X3 : Addr} {X4 : Addr} {X5 : Addr} {X6 : Addr} {X7 : Addr} {X8 : Addr} {X9 : Addr} {XI1 : Addr} {Xnm1 Xq1 : Str} {XN1 : Addr} {Xbs1 : List Value} {Xsn1 : List Str} {Xsb1 : List Value} {Xab1 : Bool} {Xcl1 : Option Bool} {Xdd1 : Option Addr} {Xm01 Xm11 Xm21 Xm31 Xm51 : Option Value} {Xod1 Xan1 : Option Addr} {Xsl1 : Array (Option Value)} {Xoc1 Xdc1 Xpm1 Xcd1 Xct1 XkV1 : Value} {t0_0}
    (a0 : PySem.W.nsIn K mainGlobals "_law_drawn" = some (some (.ref f0))) (l0 : K.lookup f0 = some ⟨oc0, od0, .func (PySem.W.fnOf "_law_drawn" "_law_drawn" (defArgs s_ulaw_drawn) (defBody s_ulaw_drawn) (defScope s_ulaw_drawn) .none kV0 dc0 pm0 an0 cd0 ct0), sl0⟩) (c0 : PySem.W.codeIn K cd0 "_law_drawn" = true) (k0 : PySem.W.keepIn K (.ref f0) = true) (a1 : PySem.W.nsIn K mainGlobals "_law_draw" = some (some (.ref f1))) (l1 : K.lookup f1 = some ⟨oc1, od1, .func (PySem.W.fnOf "_law_draw" "_law_draw" (defArgs s_ulaw_draw) (defBody s_ulaw_draw) (defScope s_ulaw_draw) .none kV1 dc1 pm1 an1 cd1 ct1), sl1⟩) (c1 : PySem.W.codeIn K cd1 "_law_draw" = true) (k1 : PySem.W.keepIn K (.ref f1) = true) (a2 : PySem.W.nsIn K mainGlobals "_law_low" = some (some (.ref f2))) (l2 : K.lookup f2 = some ⟨oc2, od2, .func (PySem.W.fnOf "_law_low" "_law_low" (defArgs s_ulaw_low) (defBody s_ulaw_low) (defScope s_ulaw_low) .none kV2 dc2 pm2 an2 cd2 ct2), sl2⟩) (c2 : PySem.W.codeIn K cd2 "_law_low" = true) (k2 : PySem.W.keepIn K (.ref f2) = true) (a3 : PySem.W.nsIn K mainGlobals "_law_part" = some (some (.ref f3))) (l3 : K.lookup f3 = some ⟨oc3, od3, .func (PySem.W.fnOf "_law_part" "_law_part" (defArgs s_ulaw_part) (defBody s_ulaw_part) (defScope s_ulaw_part) .none kV3 dc3 pm3 an3 cd3 ct3), sl3⟩) (c3 : PySem.W.codeIn K cd3 "_law_part" = true) (k3 : PySem.W.keepIn K (.ref f3) = true) (a4 : PySem.W.nsIn K mainGlobals "_law_under" = some (some (.ref f4))) (l4 : K.lookup f4 = some ⟨oc4, od4, .func (PySem.W.fnOf "_law_under" "_law_under" (defArgs s_ulaw_under) (defBody s_ulaw_under) (defScope s_ulaw_under) .none kV4 dc4 pm4 an4 cd4 ct4), sl4⟩) (c4 : PySem.W.codeIn K cd4 "_law_under" = true) (k4 : PySem.W.keepIn K (.ref f4) = true) (a5 : PySem.W.nsIn K mainGlobals "_law_piece" = some (some (.ref f5))) (l5 : K.lookup f5 = some ⟨oc5, od5, .func (PySem.W.fnOf "_law_piece" "_law_piece" (defArgs s_ulaw_piece) (defBody s_ulaw_piece) (defScope s_ulaw_piece) .none kV5 dc5 pm5 an5 cd5 ct5), sl5⟩) (c5 : PySem.W.codeIn K cd5 "_law_piece" = true) (k5 : PySem.W.keepIn K (.ref f5) = true) (a6 : PySem.W.nsIn K mainGlobals "_law_cell_at" = some (some (.ref f6))) (l6 : K.lookup f6 = some ⟨oc6, od6, .func (PySem.W.fnOf "_law_cell_at" "_law_cell_at" (defArgs s_ulaw_cell_at) (defBody s_ulaw_cell_at) (defScope s_ulaw_cell_at) .none kV6 dc6 pm6 an6 cd6 ct6), sl6⟩) (c6 : PySem.W.codeIn K cd6 "_law_cell_at" = true) (k6 : PySem.W.keepIn K (.ref f6) = true) (a7 : PySem.W.nsIn K mainGlobals "is_whole" = some (some (.ref f7))) (l7 : K.lookup f7 = some ⟨oc7, od7, .func (PySem.W.fnOf "is_whole" "is_whole" (defArgs s_is_whole) (defBody s_is_whole) (defScope s_is_whole) .none kV7 dc7 pm7 an7 cd7 ct7), sl7⟩) (c7 : PySem.W.codeIn K cd7 "is_whole" = true) (k7 : PySem.W.keepIn K (.ref f7) = true) (a8 : PySem.W.nsIn K mainGlobals "shared_by" = some (some (.ref f8))) (l8 : K.lookup f8 = some ⟨oc8, od8, .func (PySem.W.fnOf "shared_by" "shared_by" (defArgs s_shared_by) (defBody s_shared_by) (defScope s_shared_by) .none kV8 dc8 pm8 an8 cd8 ct8), sl8⟩) (c8 : PySem.W.codeIn K cd8 "shared_by" = true) (k8 : PySem.W.keepIn K (.ref f8) = true) (a9 : PySem.W.nsIn K mainGlobals "is_ratio" = some (some (.ref f9))) (l9 : K.lookup f9 = some ⟨oc9, od9, .func (PySem.W.fnOf "is_ratio" "is_ratio" (defArgs s_is_ratio) (defBody s_is_ratio) (defScope s_is_ratio) .none kV9 dc9 pm9 an9 cd9 ct9), sl9⟩) (c9 : PySem.W.codeIn K cd9 "is_ratio" = true) (k9 : PySem.W.keepIn K (.ref f9) = true) (a10 : PySem.W.nsIn K mainGlobals "is_less" = some (some (.ref f10))) (l10 : K.lookup f10 = some ⟨oc10, od10, .func (PySem.W.fnOf "is_less" "is_less" (defArgs s_is_less) (defBody s_is_less) (defScope s_is_less) .none kV10 dc10 pm10 an10 cd10 ct10), sl10⟩) (c10 : PySem.W.codeIn K cd10 "is_less" = true) (k10 : PySem.W.keepIn K (.ref f10) = true) (a11 : PySem.W.nsIn K mainGlobals "is_piece" = some (some (.ref f11))) (l11 : K.lookup f11 = some ⟨oc11, od11, .func (PySem.W.fnOf "is_piece" "is_piece" (defArgs s_is_piece) (defBody s_is_piece) (defScope s_is_piece) .none kV11 dc11 pm11 an11 cd11 ct11), sl11⟩) (c11 : PySem.W.codeIn K cd11 "is_piece" = true) (k11 : PySem.W.keepIn K (.ref f11) = true) (a12 : PySem.W.nsIn K mainGlobals "look_at" = some (some (.ref f12))) (l12 : K.lookup f12 = some ⟨oc12, od12, .func (PySem.W.fnOf "look_at" "look_at" (defArgs s_look_at) (defBody s_look_at) (defScope s_look_at) .none kV12 dc12 pm12 an12 cd12 ct12), sl12⟩) (c12 : PySem.W.codeIn K cd12 "look_at" = true) (k12 : PySem.W.keepIn K (.ref f12) = true) (a13 : PySem.W.nsIn K mainGlobals "_law_whole" = some (some (.ref f13))) (l13 : K.lookup f13 = some ⟨oc13, od13, .func (PySem.W.fnOf "_law_whole" "_law_whole" (defArgs s_ulaw_whole) (defBody s_ulaw_whole) (defScope s_ulaw_whole) .none kV13 dc13 pm13 an13 cd13 ct13), sl13⟩) (c13 : PySem.W.codeIn K cd13 "_law_whole" = true) (k13 : PySem.W.keepIn K (.ref f13) = true) (a14 : PySem.W.nsIn K mainGlobals "_law_kinds" = some (some (.ref f14))) (l14 : K.lookup f14 = some ⟨oc14, od14, .func (PySem.W.fnOf "_law_kinds" "_law_kinds" (defArgs s_ulaw_kinds) (defBody s_ulaw_kinds) (defScope s_ulaw_kinds) .none kV14 dc14 pm14 an14 cd14 ct14), sl14⟩) (c14 : PySem.W.codeIn K cd14 "_law_kinds" = true) (k14 : PySem.W.keepIn K (.ref f14) = true) (a15 : PySem.W.nsIn K mainGlobals "_law_refused" = some (some (.ref f15))) (l15 : K.lookup f15 = some ⟨oc15, od15, .func (PySem.W.fnOf "_law_refused" "_law_refused" (defArgs s_ulaw_refused) (defBody s_ulaw_refused) (defScope s_ulaw_refused) .none kV15 dc15 pm15 an15 cd15 ct15), sl15⟩) (c15 : PySem.W.codeIn K cd15 "_law_refused" = true) (k15 : PySem.W.keepIn K (.ref f15) = true) (a16 : PySem.W.nsIn K mainGlobals "_law_wrong" = some (some (.ref f16))) (l16 : K.lookup f16 = some ⟨oc16, od16, .func (PySem.W.fnOf "_law_wrong" "_law_wrong" (defArgs s_ulaw_wrong) (defBody s_ulaw_wrong) (defScope s_ulaw_wrong) .none kV16 dc16 pm16 an16 cd16 ct16), sl16⟩) (c16 : PySem.W.codeIn K cd16 "_law_wrong" = true) (k16 : PySem.W.keepIn K (.ref f16) = true) (a17 : PySem.W.nsIn K mainGlobals "law" = some (some (.ref f17))) (l17 : K.lookup f17 = some ⟨oc17, od17, .func (PySem.W.fnOf "law" "law" (defArgs s_law) (defBody s_law) (defScope s_law) .none kV17 dc17 pm17 an17 cd17 ct17), sl17⟩) (c17 : PySem.W.codeIn K cd17 "law" = true) (k17 : PySem.W.keepIn K (.ref f17) = true) (Xa0 : PySem.W.nsIn K mainGlobals "BenchError" = some (some (.ref X0))) (Xs0 : PySem.W.subIn K (.ref X0) (.type "BaseException") = some true) (Xt0 : PySem.W.typeIn K (.ref X0) = some (.type "type")) (Xc0 : PySem.W.isClsIn K X0 = true) (Xz0 : PySem.W.subIn K (.ref X0) (.ref X0) = some true) (Xa1 : PySem.W.nsIn K mainGlobals "NoBench" = some (some (.ref X1))) (Xs1 : PySem.W.subIn K (.ref X1) (.type "BaseException") = some true) (Xt1 : PySem.W.typeIn K (.ref X1) = some (.type "type")) (Xc1 : PySem.W.isClsIn K X1 = true) (Xz1 : PySem.W.subIn K (.ref X1) (.ref X1) = some true) (Xa2 : PySem.W.nsIn K mainGlobals "NoBox" = some (some (.ref X2))) (Xs2 : PySem.W.subIn K (.ref X2) (.type "BaseException") = some true) (Xt2 : PySem.W.typeIn K (.ref X2) = some (.type "type")) (Xc2 : PySem.W.isClsIn K X2 = true) (Xz2 : PySem.W.subIn K (.ref X2) (.ref X2) = some true) (Xa3 : PySem.W.nsIn K mainGlobals "NoNumber" = some (some (.ref X3))) (Xs3 : PySem.W.subIn K (.ref X3) (.type "BaseException") = some true) (Xt3 : PySem.W.typeIn K (.ref X3) = some (.type "type")) (Xc3 : PySem.W.isClsIn K X3 = true) (Xz3 : PySem.W.subIn K (.ref X3) (.ref X3) = some true) (Xa4 : PySem.W.nsIn K mainGlobals "NoRow" = some (some (.ref X4))) (Xs4 : PySem.W.subIn K (.ref X4) (.type "BaseException") = some true) (Xt4 : PySem.W.typeIn K (.ref X4) = some (.type "type")) (Xc4 : PySem.W.isClsIn K X4 = true) (Xz4 : PySem.W.subIn K (.ref X4) (.ref X4) = some true) (Xa5 : PySem.W.nsIn K mainGlobals "NoStock" = some (some (.ref X5))) (Xs5 : PySem.W.subIn K (.ref X5) (.type "BaseException") = some true) (Xt5 : PySem.W.typeIn K (.ref X5) = some (.type "type")) (Xc5 : PySem.W.isClsIn K X5 = true) (Xz5 : PySem.W.subIn K (.ref X5) (.ref X5) = some true) (Xa6 : PySem.W.nsIn K mainGlobals "NoTable" = some (some (.ref X6))) (Xs6 : PySem.W.subIn K (.ref X6) (.type "BaseException") = some true) (Xt6 : PySem.W.typeIn K (.ref X6) = some (.type "type")) (Xc6 : PySem.W.isClsIn K X6 = true) (Xz6 : PySem.W.subIn K (.ref X6) (.ref X6) = some true) (Xa7 : PySem.W.nsIn K mainGlobals "NoText" = some (some (.ref X7))) (Xs7 : PySem.W.subIn K (.ref X7) (.type "BaseException") = some true) (Xt7 : PySem.W.typeIn K (.ref X7) = some (.type "type")) (Xc7 : PySem.W.isClsIn K X7 = true) (Xz7 : PySem.W.subIn K (.ref X7) (.ref X7) = some true) (Xa8 : PySem.W.nsIn K mainGlobals "NoWish" = some (some (.ref X8))) (Xs8 : PySem.W.subIn K (.ref X8) (.type "BaseException") = some true) (Xt8 : PySem.W.typeIn K (.ref X8) = some (.type "type")) (Xc8 : PySem.W.isClsIn K X8 = true) (Xz8 : PySem.W.subIn K (.ref X8) (.ref X8) = some true) (Xa9 : PySem.W.nsIn K mainGlobals "Unknown" = some (some (.ref X9))) (Xs9 : PySem.W.subIn K (.ref X9) (.type "BaseException") = some true) (Xt9 : PySem.W.typeIn K (.ref X9) = some (.type "type")) (Xc9 : PySem.W.isClsIn K X9 = true) (Xz9 : PySem.W.subIn K (.ref X9) (.ref X9) = some true) (Xg0 : PySem.W.specialIn K (.builtin "object.__class__") "__get__" = some (some (.builtin "getset_descriptor.__get__"))) (Xg1 : PySem.W.takesIn K (.builtin "object.__class__") = some true) (Xd1 : PySem.W.findIn K (.ref X1) "__getattribute__" = some (some (.builtin "BaseException.__getattribute__"))) (Xe1 : PySem.W.findIn K (.ref X1) "__getattr__" = some none) (Xf1 : PySem.W.hasDictIn K X1 = true) (Xh1 : PySem.W.findIn K (.ref X1) "__class__" = some (some (.builtin "object.__class__"))) (Xo1 : PySem.W.mroIn K X1 (.type "object") = some true) (Xk1 : PySem.W.keepIn K (.ref X1) = true) (Xi1 : PySem.W.findIn K (.ref X1) "__init__" = some (some (.ref XI1))) (XL1 : K.lookup X1 = some (excClassObj Xnm1 Xq1 X1 XN1 Xbs1 [.ref X0, .type "ValueError", .type "Exception", .type "BaseException", .type "object"] true Xsn1 Xsb1 Xab1 Xcl1 Xdd1 Xm01 Xm11 Xm21 Xm31 Xm51 "ValueError.__new__")) (Xsa1 : PySem.W.findIn K (.ref X1) "__setattr__" = some (some (.builtin "object.__setattr__"))) (Xti1 : PySem.W.typeIn K (.ref XI1) = some (.type "function")) (Xno1 : PySem.W.findIn K (.ref X1) "at" = some none) (Xl1 : K.lookup XI1 = some ⟨Xoc1, Xod1, .func (PySem.W.fnOf "__init__" "NoBench.__init__" (defArgs s_NoBenchu_initu) (defBody s_NoBenchu_initu) (defScope s_NoBenchu_initu) .none XkV1 Xdc1 Xpm1 Xan1 Xcd1 Xct1), Xsl1⟩) (Xlc1 : PySem.W.codeIn K Xcd1 "NoBench.__init__" = true) (Xlk1 : PySem.W.keepIn K (.ref XI1) = true) (Xb01 : PySem.W.specialIn K (.ref X0) "__getattribute__" = some (some (.builtin "type.__getattribute__"))) (Xb11 : PySem.W.readsIn K X0 (.type "type") = true) (Xb21 : PySem.W.findCls K (.ref X0) (.type "type") "__init__" = some (.val (.builtin "ValueError.__init__"))) (Xy1_0 : PySem.W.subIn K (.ref X1) (.ref X0) = some true) (Xy1_2 : PySem.W.subIn K (.ref X1) (.ref X2) = some false) (Xy1_3 : PySem.W.subIn K (.ref X1) (.ref X3) = some false) (Xy1_4 : PySem.W.subIn K (.ref X1) (.ref X4) = some false) (Xy1_5 : PySem.W.subIn K (.ref X1) (.ref X5) = some false) (Xy1_6 : PySem.W.subIn K (.ref X1) (.ref X6) = some false) (Xy1_7 : PySem.W.subIn K (.ref X1) (.ref X7) = some false) (Xy1_8 : PySem.W.subIn K (.ref X1) (.ref X8) = some false) (Xy1_9 : PySem.W.subIn K (.ref X1) (.ref X9) = some false) (Xv1 : PySem.W.subIn K (.ref X1) (.type "ValueError") = some true) (Xn1 : PySem.W.subIn K (.type "NoneType") (.ref X1) = some false) (Xn3 : PySem.W.subIn K (.type "NoneType") (.ref X3) = some false) (Xn7 : PySem.W.subIn K (.type "NoneType") (.ref X7) = some false) (Xn6 : PySem.W.subIn K (.type "NoneType") (.ref X6) = some false) (Xn2 : PySem.W.subIn K (.type "NoneType") (.ref X2) = some false) (Xn5 : PySem.W.subIn K (.type "NoneType") (.ref X5) = some false) (Xn8 : PySem.W.subIn K (.type "NoneType") (.ref X8) = some false) (Xn4 : PySem.W.subIn K (.type "NoneType") (.ref X4) = some false) (Xn9 : PySem.W.subIn K (.type "NoneType") (.ref X9) = some false) (z_ValueError : PySem.W.nsIn K mainGlobals "ValueError" = some none) (z_abs : PySem.W.nsIn K mainGlobals "abs" = some none) (z_all : PySem.W.nsIn K mainGlobals "all" = some none) (z_bool : PySem.W.nsIn K mainGlobals "bool" = some none) (z_enumerate : PySem.W.nsIn K mainGlobals "enumerate" = some none) (z_int : PySem.W.nsIn K mainGlobals "int" = some none) (z_isinstance : PySem.W.nsIn K mainGlobals "isinstance" = some none) (z_len : PySem.W.nsIn K mainGlobals "len" = some none) (z_list : PySem.W.nsIn K mainGlobals "list" = some none) (z_range : PySem.W.nsIn K mainGlobals "range" = some none) (z_str : PySem.W.nsIn K mainGlobals "str" = some none) (z_tuple : PySem.W.nsIn K mainGlobals "tuple" = some none) (kg0 : PySem.W.nsIn K mainGlobals "MOST" = some (some (.int 60 t0_0))) :
    ∃ fd : FuncData, (∀ (s : Shared) (v : Value), BindsTo s fd ⟨[v], []⟩ [("_law_script", v)]) ∧ ∀ base : Heap, FnOk P w K mg base (L2N.CX P w) 6 fa fd p_law (spD ⟨K, mg⟩ none p_law.length F_law) := by
  have e := hfa.symm.trans (PySem.W.mg_of X G a17)
  cases e
  have T : Σ' T : Facts K mg, T.a_law = fa ∧ T.f_law = PySem.W.fnOf "law" "law" (defArgs s_law) (defBody s_law) (defScope s_law) .none kV17 dc17 pm17 an17 cd17 ct17 := ⟨{
    a_ulaw_drawn := f0, f_ulaw_drawn := _, F_ulaw_drawn := fun_mk (st := s_ulaw_drawn) l0 c0 k0, b_ulaw_drawn := (fun_mk (st := s_ulaw_drawn) l0 c0 k0).binds (ps := p_ulaw_drawn) fun _ _ _ _ _ _ us hl => match us, hl with | [_, _], _ => rfl
    m_ulaw_drawn := PySem.W.mg_of X G a0, k_ulaw_drawn := k0
    a_ulaw_draw := f1, f_ulaw_draw := _, F_ulaw_draw := fun_mk (st := s_ulaw_draw) l1 c1 k1, b_ulaw_draw := (fun_mk (st := s_ulaw_draw) l1 c1 k1).binds (ps := p_ulaw_draw) fun _ _ _ _ _ _ us hl => match us, hl with | [_, _], _ => rfl
    m_ulaw_draw := PySem.W.mg_of X G a1, k_ulaw_draw := k1
    a_ulaw_low := f2, f_ulaw_low := _, F_ulaw_low := fun_mk (st := s_ulaw_low) l2 c2 k2, b_ulaw_low := (fun_mk (st := s_ulaw_low) l2 c2 k2).binds (ps := p_ulaw_low) fun _ _ _ _ _ _ us hl => match us, hl with | [_, _], _ => rfl
    m_ulaw_low := PySem.W.mg_of X G a2, k_ulaw_low := k2
    a_ulaw_part := f3, f_ulaw_part := _, F_ulaw_part := fun_mk (st := s_ulaw_part) l3 c3 k3, b_ulaw_part := (fun_mk (st := s_ulaw_part) l3 c3 k3).binds (ps := p_ulaw_part) fun _ _ _ _ _ _ us hl => match us, hl with | [_, _], _ => rfl
    m_ulaw_part := PySem.W.mg_of X G a3, k_ulaw_part := k3
    a_ulaw_under := f4, f_ulaw_under := _, F_ulaw_under := fun_mk (st := s_ulaw_under) l4 c4 k4, b_ulaw_under := (fun_mk (st := s_ulaw_under) l4 c4 k4).binds (ps := p_ulaw_under) fun _ _ _ _ _ _ us hl => match us, hl with | [_, _], _ => rfl
    m_ulaw_under := PySem.W.mg_of X G a4, k_ulaw_under := k4
    a_ulaw_piece := f5, f_ulaw_piece := _, F_ulaw_piece := fun_mk (st := s_ulaw_piece) l5 c5 k5, b_ulaw_piece := (fun_mk (st := s_ulaw_piece) l5 c5 k5).binds (ps := p_ulaw_piece) fun _ _ _ _ _ _ us hl => match us, hl with | [_, _], _ => rfl
    m_ulaw_piece := PySem.W.mg_of X G a5, k_ulaw_piece := k5
    a_ulaw_cell_at := f6, f_ulaw_cell_at := _, F_ulaw_cell_at := fun_mk (st := s_ulaw_cell_at) l6 c6 k6, b_ulaw_cell_at := (fun_mk (st := s_ulaw_cell_at) l6 c6 k6).binds (ps := p_ulaw_cell_at) fun _ _ _ _ _ _ us hl => match us, hl with | [_, _], _ => rfl
    m_ulaw_cell_at := PySem.W.mg_of X G a6, k_ulaw_cell_at := k6
    a_is_whole := f7, f_is_whole := _, F_is_whole := fun_mk (st := s_is_whole) l7 c7 k7, b_is_whole := (fun_mk (st := s_is_whole) l7 c7 k7).binds (ps := p_is_whole) fun _ _ _ _ _ _ us hl => match us, hl with | [_], _ => rfl
    m_is_whole := PySem.W.mg_of X G a7, k_is_whole := k7
    a_shared_by := f8, f_shared_by := _, F_shared_by := fun_mk (st := s_shared_by) l8 c8 k8, b_shared_by := (fun_mk (st := s_shared_by) l8 c8 k8).binds (ps := p_shared_by) fun _ _ _ _ _ _ us hl => match us, hl with | [_, _], _ => rfl
    m_shared_by := PySem.W.mg_of X G a8, k_shared_by := k8
    a_is_ratio := f9, f_is_ratio := _, F_is_ratio := fun_mk (st := s_is_ratio) l9 c9 k9, b_is_ratio := (fun_mk (st := s_is_ratio) l9 c9 k9).binds (ps := p_is_ratio) fun _ _ _ _ _ _ us hl => match us, hl with | [_], _ => rfl
    m_is_ratio := PySem.W.mg_of X G a9, k_is_ratio := k9
    a_is_less := f10, f_is_less := _, F_is_less := fun_mk (st := s_is_less) l10 c10 k10, b_is_less := (fun_mk (st := s_is_less) l10 c10 k10).binds (ps := p_is_less) fun _ _ _ _ _ _ us hl => match us, hl with | [_, _], _ => rfl
    m_is_less := PySem.W.mg_of X G a10, k_is_less := k10
    a_is_piece := f11, f_is_piece := _, F_is_piece := fun_mk (st := s_is_piece) l11 c11 k11, b_is_piece := (fun_mk (st := s_is_piece) l11 c11 k11).binds (ps := p_is_piece) fun _ _ _ _ _ _ us hl => match us, hl with | [_], _ => rfl
    m_is_piece := PySem.W.mg_of X G a11, k_is_piece := k11
    a_look_at := f12, f_look_at := _, F_look_at := fun_mk (st := s_look_at) l12 c12 k12, b_look_at := (fun_mk (st := s_look_at) l12 c12 k12).binds (ps := p_look_at) fun _ _ _ _ _ _ us hl => match us, hl with | [_], _ => rfl
    m_look_at := PySem.W.mg_of X G a12, k_look_at := k12
    a_ulaw_whole := f13, f_ulaw_whole := _, F_ulaw_whole := fun_mk (st := s_ulaw_whole) l13 c13 k13, b_ulaw_whole := (fun_mk (st := s_ulaw_whole) l13 c13 k13).binds (ps := p_ulaw_whole) fun _ _ _ _ _ _ us hl => match us, hl with | [_], _ => rfl
    m_ulaw_whole := PySem.W.mg_of X G a13, k_ulaw_whole := k13
    a_ulaw_kinds := f14, f_ulaw_kinds := _, F_ulaw_kinds := fun_mk (st := s_ulaw_kinds) l14 c14 k14, b_ulaw_kinds := (fun_mk (st := s_ulaw_kinds) l14 c14 k14).binds (ps := p_ulaw_kinds) fun _ _ _ _ _ _ us hl => match us, hl with | [_], _ => rfl
    m_ulaw_kinds := PySem.W.mg_of X G a14, k_ulaw_kinds := k14
    a_ulaw_refused := f15, f_ulaw_refused := _, F_ulaw_refused := fun_mk (st := s_ulaw_refused) l15 c15 k15, b_ulaw_refused := (fun_mk (st := s_ulaw_refused) l15 c15 k15).binds (ps := p_ulaw_refused) fun _ _ _ _ _ _ us hl => match us, hl with | [_, _], _ => rfl
    m_ulaw_refused := PySem.W.mg_of X G a15, k_ulaw_refused := k15
    a_ulaw_wrong := f16, f_ulaw_wrong := _, F_ulaw_wrong := fun_mk (st := s_ulaw_wrong) l16 c16 k16, b_ulaw_wrong := (fun_mk (st := s_ulaw_wrong) l16 c16 k16).binds (ps := p_ulaw_wrong) fun _ _ _ _ _ _ us hl => match us, hl with | [_, _], _ => rfl
    m_ulaw_wrong := PySem.W.mg_of X G a16, k_ulaw_wrong := k16
    a_law := fa, f_law := _, F_law := fun_mk (st := s_law) l17 c17 k17, b_law := (fun_mk (st := s_law) l17 c17 k17).binds (ps := p_law) fun _ _ _ _ _ _ us hl => match us, hl with | [_], _ => rfl
    m_law := PySem.W.mg_of X G a17, k_law := k17
    x_BenchError := X0, mx_BenchError := PySem.W.mg_of X G Xa0
    x_NoBench := X1, mx_NoBench := PySem.W.mg_of X G Xa1
    x_NoBox := X2, mx_NoBox := PySem.W.mg_of X G Xa2
    x_NoNumber := X3, mx_NoNumber := PySem.W.mg_of X G Xa3
    x_NoRow := X4, mx_NoRow := PySem.W.mg_of X G Xa4
    x_NoStock := X5, mx_NoStock := PySem.W.mg_of X G Xa5
    x_NoTable := X6, mx_NoTable := PySem.W.mg_of X G Xa6
    x_NoText := X7, mx_NoText := PySem.W.mg_of X G Xa7
    x_NoWish := X8, mx_NoWish := PySem.W.mg_of X G Xa8
    x_Unknown := X9, mx_Unknown := PySem.W.mg_of X G Xa9
    xis_NoBench := ⟨Xd1, Xe1, Xs1, Xc1, Xf1, Xh1, Xo1, Xg0, Xg1⟩
    xo_NoBench := ⟨⟨Xnm1, Xq1, XN1, Xbs1, _, Xsn1, Xsb1, Xab1, Xcl1, Xdd1, Xm01, Xm11, Xm21, Xm31, Xm51, XL1, rfl⟩, Xsa1, Xs1, Xt1, Xk1⟩
    xI_NoBench := XI1, xfd_NoBench := _, xi_NoBench := Xi1, xt_NoBench := Xti1, xn_NoBench := Xno1, XF_NoBench := fun_mk (st := s_NoBenchu_initu) Xl1 Xlc1 Xlk1, xb_NoBench := (fun_mk (st := s_NoBenchu_initu) Xl1 Xlc1 Xlk1).binds (ps := ["self", "at"]) fun _ _ _ _ _ _ us hl => match us, hl with | [_, _], _ => rfl
    xat_NoBench := ⟨⟨Xd1, Xe1, Xs1, Xc1, Xf1, Xh1, Xo1, Xg0, Xg1⟩, Xno1⟩, xbase_NoBench := ⟨Xb01, Xt0, Xb11, Xb21⟩
    exm_NoBench_BenchError := exm_own Xs0 Xc0 Xt0 Xy1_0
    kit_NoBench_NoBench := kit_own2 Xc1 Xt1 Xz1 Xz1
    ve_NoBench := kit_ve Xv1
    kit_NoBench_NoNumber := kit_own2 Xc3 Xt3 Xy1_3 Xz3
    kit_NoBench_NoText := kit_own2 Xc7 Xt7 Xy1_7 Xz7
    kit_NoBench_NoTable := kit_own2 Xc6 Xt6 Xy1_6 Xz6
    kit_NoBench_NoBox := kit_own2 Xc2 Xt2 Xy1_2 Xz2
    kit_NoBench_NoStock := kit_own2 Xc5 Xt5 Xy1_5 Xz5
    kit_NoBench_NoWish := kit_own2 Xc8 Xt8 Xy1_8 Xz8
    kit_NoBench_NoRow := kit_own2 Xc4 Xt4 Xy1_4 Xz4
    kit_NoBench_Unknown := kit_own2 Xc9 Xt9 Xy1_9 Xz9
    kn_NoBench := kit_own2 Xc1 Xt1 Xn1 Xz1
    kn_NoNumber := kit_own2 Xc3 Xt3 Xn3 Xz3
    kn_NoText := kit_own2 Xc7 Xt7 Xn7 Xz7
    kn_NoTable := kit_own2 Xc6 Xt6 Xn6 Xz6
    kn_NoBox := kit_own2 Xc2 Xt2 Xn2 Xz2
    kn_NoStock := kit_own2 Xc5 Xt5 Xn5 Xz5
    kn_NoWish := kit_own2 Xc8 Xt8 Xn8 Xz8
    kn_NoRow := kit_own2 Xc4 Xt4 Xn4 Xz4
    kn_Unknown := kit_own2 Xc9 Xt9 Xn9 Xz9
    z_ValueError := PySem.W.mg_none_of X G z_ValueError
    z_abs := PySem.W.mg_none_of X G z_abs
    z_all := PySem.W.mg_none_of X G z_all
    z_bool := PySem.W.mg_none_of X G z_bool
    z_enumerate := PySem.W.mg_none_of X G z_enumerate
    z_int := PySem.W.mg_none_of X G z_int
    z_isinstance := PySem.W.mg_none_of X G z_isinstance
    z_len := PySem.W.mg_none_of X G z_len
    z_list := PySem.W.mg_none_of X G z_list
    z_range := PySem.W.mg_none_of X G z_range
    z_str := PySem.W.mg_none_of X G z_str
    z_tuple := PySem.W.mg_none_of X G z_tuple
    c_MOST := .mk' (PySem.W.mg_of X G kg0) kv_int }, rfl, rfl⟩
  obtain ⟨T, e1, e2⟩ := T
  refine ⟨PySem.W.fnOf "law" "law" (defArgs s_law) (defBody s_law) (defScope s_law) .none kV17 dc17 pm17 an17 cd17 ct17, fun s v => .of_eq rfl, fun base => ?_⟩
  have q := d_law (P := P) (w := w) (base := base) T
  rw [e1, e2] at q
  exact q
end
end LAW

set_option Elab.async false
set_option maxRecDepth 100000
set_option linter.all false
set_option exponentiation.threshold 10000
set_option maxHeartbeats 1000000
local macro_rules | `(tactic| simp_arith [$ls,*]) => `(tactic| simp (disch := first | assumption | omega | (simp only [List.length_drop, List.length_take, List.length_map, List.length_append, List.length_cons, List.length_nil, List.length_reverse, DL.rngL_length]; omega) | (simp only [DL.tyN, ne_eq, reduceCtorEq, not_false_eq_true]) | (apply DL.Sz.le <;> (repeat' (first | assumption | (apply DL.Sz.add) | (apply DL.Sz.sub) | (apply DL.Sz.mul) | (apply DL.Sz.div) | (apply DL.Sz.neg) | exact DL.Sz.one | exact DL.Sz.zero | omega)))) only [DL.k_sSl, DL.k_slV, DL.k_slVO, DL.k_slP, DL.k_slPO, DL.k_bind_ok, DL.k_bind_ex, DL.k_bind_bot, DL.k_bindS_ok, DL.k_bindS_ex, DL.k_bindS_bot, DL.k_var, DL.k_look_val, DL.k_look_own, DL.k_look_no, DL.k_C, DL.k_frz_dat, DL.k_frz_fresh, DL.k_frz_pk, DL.k_frzC_own, DL.k_frzC_val, DL.k_res_dat, DL.k_res_fresh, DL.k_res_pk, DL.k_resC_own, DL.k_resC_val, DL.k_resL_nil, DL.k_resL_cons, DL.k_resLO, DL.k_consO, DL.k_items_nil, DL.k_items_cons, DL.k_itK, DL.k_itO, DL.k_itC, DL.k_tup, DL.k_tupK, DL.k_lst, DL.k_lstK, DL.k_dct0, DL.k_op, DL.k_opK, DL.k_opK2, DL.k_pOpO, DL.k_oPV, DL.k_oPV_if, DL.k_oPV_none, DL.k_neg, DL.k_negK, DL.k_and, DL.k_andK, DL.k_or, DL.k_orK, DL.k_not, DL.k_notK, DL.k_tof, DL.k_tofK, DL.k_tand, DL.k_tandK, DL.k_tor, DL.k_torK, DL.k_tnot, DL.k_tnotK, DL.k_ttrue, DL.k_if, DL.k_ifK, DL.k_chain, DL.k_ch0, DL.k_ch1, DL.k_ch2, DL.k_ch3, DL.k_pNone, DL.k_pSome, DL.k_psK, DL.k_sl, DL.k_sl1, DL.k_sl2, DL.k_sl3, DL.k_slO, DL.k_args_nil, DL.k_args_cons, DL.k_arK, DL.k_arC, DL.k_frzF_dat, DL.k_frzF_fresh, DL.k_frzF_pk, DL.k_callB, DL.k_cbK, DL.k_cbO, DL.k_isi, DL.k_isK, DL.k_isDD, DL.k_isO, DL.k_bind_if, DL.k_bindS_if, DL.k_merge_and, DL.k_merge_or, DL.k_merge_tand, DL.k_merge_tor, DL.k_aft_nil, DL.k_aft_true, DL.k_aft_false, DL.nfr_nil, DL.nfr_dat, DL.nfr_pk, DL.k_call0, DL.k_callR0, DL.k_callB1, DL.k_callO, DL.k_callE_ret, DL.k_callE_own, DL.k_callE_ex, DL.k_callE_if, DL.k_bor_nil, DL.k_bor_dat, DL.k_bor_pk, DL.k_borC_own, DL.k_borC_val, DL.k_frzAll_nil, DL.k_frzAll_cons, DL.k_frzAt, DL.k_frzAtC_own, DL.k_frzAtC_val, DL.k_seq, DL.k_seq_nx, DL.k_seq_rt, DL.k_seq_bk, DL.k_seq_ct, DL.k_seq_ex, DL.k_seq_bot, DL.k_seq_if, DL.k_nx, DL.k_bk, DL.k_ct, DL.k_botS, DL.k_expr, DL.k_exK, DL.k_ret, DL.k_rtK, DL.k_retN, DL.k_sif, DL.k_sifK, DL.k_set, DL.k_setK, DL.k_putE, DL.k_put_dat, DL.k_put_fresh, DL.k_put_pk, DL.k_putP, DL.k_asg, DL.k_asgK, DL.k_asgO, DL.k_tgN, DL.k_tgTup, DL.k_tgNil, DL.k_tgCons, DL.k_tgO, DL.k_par, DL.k_parK, DL.k_fin_rt, DL.k_fin_nx, DL.k_fin_ex, DL.k_fin_bot, DL.k_fin_if, DL.k_finP_dat, DL.k_finP_fresh, DL.k_finP_pk, DL.k_finC_own, DL.k_finC_val, DL.k_for, DL.k_fiSeq, DL.k_fsK, DL.k_seqI_lst, DL.k_seqI_tup, DL.k_fiOf, DL.k_kOf, DL.k_oOf, DL.k_rng1, DL.k_rng2, DL.k_enum, DL.k_zip, DL.k_enum1, DL.k_zip2l, DL.k_zip2t, DL.k_zipL, DL.k_zipL0, DL.k_lc, DL.k_lcK, DL.k_lcQ, DL.k_lcB, DL.k_comp0, DL.k_wipe0, DL.k_wipe, DL.k_rest0, DL.k_rest, DL.k_nown0, DL.k_nown, DL.k_nown_val, DL.k_nown_no, DL.k_turn, DL.k_turnG, DL.k_turnT, DL.k_turnF, DL.k_turnK, DL.k_comp_cons, DL.k_compS, DL.k_toL, DL.k_toL0, DL.k_met, DL.k_metS, DL.k_metG, DL.k_metC, DL.k_metO, DL.k_bor, DL.k_borIn_own, DL.k_borIn_val, DL.k_borEnd, DL.k_borQ, DL.k_pvf_dat, DL.k_pvf_fresh, DL.k_own_own, DL.k_own_val, DL.k_own_no, DL.k_nl_int, DL.k_nl_bl, DL.k_nl_str, DL.k_nl_non, DL.k_nl_q, DL.k_nl_tup, DL.k_nls_nil, DL.k_nls_cons, DL.k_nlE_lst, DL.k_dle, DL.k_dlt, DL.k_zipL0r, DL.k_rev, DL.k_revK, DL.k_revO, DL.k_fiRev, DL.k_fiRevK, DL.k_fiRevO, DL.k_mk, DL.k_mkK, DL.k_mkQ, DL.k_fld, DL.k_fldF, DL.k_fldL, DL.k_mth, DL.k_mthF, DL.k_mthL, DL.k_mthC, DL.k_mthA, DL.k_noX, DL.k_nl_ins, DL.k_nl_lst, DL.k_by, DL.k_by1, DL.k_by2, DL.k_by3, DL.k_byO, DL.k_zipTL, DL.k_zipTL2, DL.k_callF, DL.k_cfK, DL.k_cfI, DL.k_cfO_ret, DL.k_cfO_own, DL.k_callM, DL.k_callM1, DL.k_callM2, DL.k_callM3, DL.k_cM, DL.k_cmO_ret, DL.k_cmO_own, DL.k_sIx, DL.k_sx1, DL.k_sxO, DL.k_sxC, DL.k_sx2, DL.k_sxF, DL.k_sxN, DL.k_ixN20, DL.k_ixN21, DL.k_finM_dat, DL.k_finM_fresh, DL.k_finM_pk, DL.k_fmD, DL.k_fmF, DL.k_fmP_own, DL.k_fmP_val, DL.k_m01, DL.k_m02, DL.k_m03, DL.k_tgLst, DL.k_ixN30, DL.k_ixN31, DL.k_ixN32, DL.k_ixN40, DL.k_ixN41, DL.k_ixN42, DL.k_ixN43, DL.k_rep, DL.k_rep1, DL.k_rep2, DL.k_repL, DL.k_repO, DL.k_mine_fresh, DL.k_mine_pk, DL.k_mineC, DL.k_times1, DL.k_try, DL.k_tryO_nx, DL.k_tryO_rt, DL.k_tryO_ex, DL.k_tryO_if, DL.k_tryH0, DL.k_tryH, DL.k_tryL1, DL.k_tryL0, DL.k_hdIn0, DL.k_hdIn1, DL.k_hdIn2, DL.k_hdOut0, DL.k_hdOut1, DL.k_hdOutr, DL.k_hdOut_if, DL.k_raise, DL.k_raiseA, DL.k_raK, DL.k_isC, DL.k_icK, DL.k_icD, DL.k_icO, DL.k_isCs, DL.k_icsK, DL.k_icsD, DL.k_isTs0, DL.k_isTs, DL.k_isTsL1, DL.k_isTsL0, DL.k_eAt, DL.k_atK, DL.k_atD, DL.k_atB, DL.k_isn_exn, DL.k_nl_exn, DL.d_app, DL.d_appQ, DL.d_all0, DL.d_all1, DL.d_all2, DL.d_all4, DL.q_flt, DL.q_deq, DL.q_shp, DL.q_npair, DL.q_lit0, DL.q_lit1, DL.q_ix0, DL.q_ix1, DL.q_isn_non, DL.q_isn_bl, DL.q_isn_int, DL.q_isn_str, DL.q_isn_tup, DL.q_isn_lst, DL.q_isn, DL.q_len, DL.q_ity, DL.d_in_lst, DL.d_nin_lst, DL.d_in_tup, DL.d_nin_tup, DL.d_inQ0, DL.d_inQ1, DL.d_in_sign, DL.d_nin_sign, DL.d_fl_non, DL.d_fl_bl, DL.d_fl_int, DL.d_fl_str, DL.q_last, DL.q_last2, DL.q_last1, DL.q_isn_opt, DL.d_shr, DL.d_int_bl, DL.d_int_t, DL.d_int_f, DL.d_add_int, DL.d_add_lstQ, DL.d_add_tupQ, DL.d_add_strQ, DL.d_addQ1, DL.d_sub_int, DL.d_mulR, DL.d_mulL, DL.d_mod_pos, DL.d_div_pos, DL.d_powL, DL.d_lt, DL.d_le, DL.d_gt, DL.d_ge, DL.d_eqQ, DL.d_eqQ1, DL.d_neQ, DL.d_neQ1, DL.q_non, DL.q_bl, DL.q_int, DL.q_bl_int, DL.q_int_bl, DL.q_str, DL.q_tup, DL.q_lst, DL.q_nil, DL.q_cons, DL.q_nil_cons, DL.q_cons_nil, DL.s_non, DL.s_bl, DL.s_int, DL.s_tupQ, DL.s_lstQ, DL.s_strQ, DL.s_Q1, DL.f_non, DL.f_bl, DL.f_int, DL.f_str, DL.f_tup, DL.f_lst, DL.d_is_non, DL.d_isn_non, DL.z_cast, DL.x_tup, DL.x_lst, DL.l_lst, DL.l_tup, DL.l_str, DL.n_abs, DL.n_min, DL.n_max, DL.n_list_l, DL.n_list_t, DL.n_tup_l, DL.n_tup_t, DL.n_int, DL.c_lst, DL.c_tup, DL.c_to, DL.c_from, DL.c_toL, DL.c_fromL, DL.c_all, DL.c_mid, DL.i_int_non, DL.i_int_bl, DL.i_int_int, DL.i_int_str, DL.i_int_tup, DL.i_int_lst, DL.i_int_dct, DL.i_bool_non, DL.i_bool_bl, DL.i_bool_int, DL.i_bool_str, DL.i_bool_tup, DL.i_bool_lst, DL.i_bool_dct, DL.i_str_non, DL.i_str_bl, DL.i_str_int, DL.i_str_str, DL.i_str_tup, DL.i_str_lst, DL.i_str_dct, DL.i_list_non, DL.i_list_bl, DL.i_list_int, DL.i_list_str, DL.i_list_tup, DL.i_list_lst, DL.i_list_dct, DL.i_tuple_non, DL.i_tuple_bl, DL.i_tuple_int, DL.i_tuple_str, DL.i_tuple_tup, DL.i_tuple_lst, DL.i_tuple_dct, DL.i_dict_non, DL.i_dict_bl, DL.i_dict_int, DL.i_dict_str, DL.i_dict_tup, DL.i_dict_lst, DL.i_dict_dct, DL.q_non_bl, DL.q_non_int, DL.q_non_str, DL.q_non_tup, DL.q_non_lst, DL.q_bl_non, DL.q_bl_str, DL.q_bl_tup, DL.q_bl_lst, DL.q_int_non, DL.q_int_str, DL.q_int_tup, DL.q_int_lst, DL.q_str_non, DL.q_str_bl, DL.q_str_int, DL.q_str_tup, DL.q_str_lst, DL.q_tup_non, DL.q_tup_bl, DL.q_tup_int, DL.q_tup_str, DL.q_tup_lst, DL.q_lst_non, DL.q_lst_bl, DL.q_lst_int, DL.q_lst_str, DL.q_lst_tup, DL.c_midL, List.getElem?_cons_zero, List.getElem?_cons_succ, List.set_cons_zero, List.set_cons_succ, List.getD_cons_zero, List.getD_cons_succ, List.length_cons, List.length_nil, List.all_cons, List.all_nil, Bool.and_true, Bool.true_and, Bool.and_false, Bool.false_and, Bool.or_true, Bool.true_or, Bool.or_false, Bool.false_or, Bool.not_true, Bool.not_false, if_true, if_false, reduceCtorEq, Nat.reduceAdd, Nat.reduceSub, Nat.zero_add, eq_self, Bool.false_eq_true, Option.map_some, Option.map_none, DL.fnD, DL.mkEnv, DL.cellsOf, List.cons_append, List.nil_append, List.append_nil, List.replicate, Int.reduceNeg, Int.reduceAdd, Int.reduceSub, Int.reduceMul, DL.a_pos, DL.a_neg, Int.reduceToNat, Int.reducePow, Nat.reducePow, Int.reduceEq, Int.reduceLT, Int.reduceLE, Int.reduceNe, Nat.reduceEqDiff, Nat.reduceLT, Nat.reduceLeDiff, ge_iff_le, Int.reduceMod, Int.reduceDiv, beq_self_eq_true, decide_true, decide_false, $ls,*])
namespace LAW
open PySem PySem.Spec L2 DL
abbrev noN : Exn := ⟨"NoNumber", none⟩
def isInt : D → Bool
  | .int _ => true
  | _ => false
theorem whole_eq (d : D) (h : tyN d ≠ none) : F_is_whole [d] = .ret (.bl (isInt d)) none := by
  cases d <;> first
    | exact absurd rfl h
    | simp_arith [F_is_whole, B_is_whole, N_is_whole, isInt]
theorem whole_non : F_is_whole [.non] = .ret (.bl false) none := whole_eq _ (by simp [tyN])
theorem whole_bl (b : Bool) : F_is_whole [.bl b] = .ret (.bl false) none := whole_eq _ (by simp [tyN])
theorem whole_int (i : Int) : F_is_whole [.int i] = .ret (.bl true) none := whole_eq _ (by simp [tyN])
theorem whole_str (x : Str) : F_is_whole [.str x] = .ret (.bl false) none := whole_eq _ (by simp [tyN])
theorem whole_tup (xs : List D) : F_is_whole [.tup xs] = .ret (.bl false) none := whole_eq _ (by simp [tyN])
theorem whole_lst (xs : List D) : F_is_whole [.lst xs] = .ret (.bl false) none := whole_eq _ (by simp [tyN])
theorem whole_dct (ks : List Key) (xs : List D) : F_is_whole [.dct ks xs] = .ret (.bl false) none := whole_eq _ (by simp [tyN])
theorem shared_eq (a b : Int) : F_shared_by [.int a, .int b] = .ret (.int (Int.gcd a b)) none := by
  have h := while_gcd (t := T_shared_by_1) (F := L_shared_by_2) (fun a b => [.val (.int a), .val (.int b)])
    (fun a b => by simp_arith [T_shared_by_1])
    (fun a b hb => by simp_arith [L_shared_by_2])
    ((b.natAbs : Int).toNat + 1) a.natAbs b.natAbs (by omega) (by omega) (by omega)
  obtain ⟨k, hk⟩ := h
  simp_arith [F_shared_by, B_shared_by, N_shared_by, while_nx hk]
  simp only [Int.gcd, Int.natAbs_natCast]
theorem ratio_t (a b : Int) : F_is_ratio [.tup [.int a, .int b]] = .ret (.bl (decide (0 < b) && decide (Int.gcd a b = 1))) none := by
  simp_arith [F_is_ratio, B_is_ratio, N_is_ratio, whole_int, shared_eq]
  have e : decide ((Int.gcd a b : Int) = 1) = decide (Int.gcd a b = 1) := decide_eq_decide.mpr (by omega)
  rw [e]
theorem ratio_q (q : Rat) : F_is_ratio [qD q] = .ret (.bl true) none := by
  unfold qD
  rw [ratio_t, gcd_q, decide_eq_true (den_pos' q)]
  rfl
theorem mulSz {p q : Int} (h : p.natAbs < 2 ^ 4000) (h2 : q.natAbs < 2 ^ 4000) : mulD (.int p) (.int q) = some (.dat (.int (p * q))) := d_mul (mulS h h2 (by decide))
theorem denSz {p q : Rat} (h : Sz 4000 p) (h2 : Sz 4000 q) : ((p.den : Int) * q.den).natAbs < 2 ^ 8500 ∧ ((p.den : Int) * q.den) ≠ 0 := by
  refine ⟨?_, ?_⟩
  · rw [Int.natAbs_mul, Int.natAbs_natCast, Int.natAbs_natCast]
    exact Nat.lt_trans (mul_lt h.2 h2.2) (Nat.pow_lt_pow_right (by decide) (by decide))
  · have a := den_pos' p
    have b := den_pos' q
    have := Int.mul_pos a b
    omega
theorem denA {p : Rat} (h : Sz 4000 p) : ((p.den : Int)).natAbs < 2 ^ 4000 := by rw [Int.natAbs_natCast]; exact h.2
theorem is_less_eq (p q : Rat) (h : Sz 4000 p) (h2 : Sz 4000 q) : F_is_less [qD p, qD q] = .ret (.bl (decide (p < q))) none := by
  have m1 := mulSz h.1 (denA h2)
  have m2 := mulSz h2.1 (denA h)
  have e : decide (p.num * q.den < q.num * p.den) = decide (p < q) := decide_eq_decide.mpr (q_lt p q)
  rw [← e]
  unfold qD
  simp_arith [F_is_less, B_is_less, N_is_less, m1, m2]
theorem is_piece_eq (p : Pc) (h : okPc 4000 p) : F_is_piece [pD p] = .ret (.bl true) none := by
  cases p with
  | gap q => simp_arith [w_k_0, w_e_0_0, w_e_0_1, w_e_0_2, w_e_0_3, w_e_0_4, w_k_1, w_e_1_0, w_e_1_1, w_e_1_2, w_e_1_3, w_e_1_4, w_k_2, w_e_2_0, w_e_2_1, w_e_2_2, w_e_2_3, w_e_2_4, w_k_3, w_e_3_0, w_e_3_1, w_e_3_2, w_e_3_3, w_e_3_4, w_k_4, w_e_4_0, w_e_4_1, w_e_4_2, w_e_4_3, w_e_4_4, w_k_atn_NoBench, w_k_tx_BenchError_NoBench, w_k_q_NoBench_NoBench, w_k_q_NoBench_n, w_k_q_ValueError_NoBench, w_k_q_ValueError_n, w_k_q_NoNumber_NoBench, w_k_q_NoNumber_n, w_k_q_NoText_NoBench, w_k_q_NoText_n, w_k_q_NoTable_NoBench, w_k_q_NoTable_n, w_k_q_NoBox_NoBench, w_k_q_NoBox_n, w_k_q_NoStock_NoBench, w_k_q_NoStock_n, w_k_q_NoWish_NoBench, w_k_q_NoWish_n, w_k_q_NoRow_NoBench, w_k_q_NoRow_n, w_k_q_Unknown_NoBench, w_k_q_Unknown_n, pD, F_is_piece, B_is_piece, N_is_piece, E_is_piece_1, ratio_q, List.drop_succ_cons, List.drop_zero, List.drop]
  | glass q => simp_arith [w_k_0, w_e_0_0, w_e_0_1, w_e_0_2, w_e_0_3, w_e_0_4, w_k_1, w_e_1_0, w_e_1_1, w_e_1_2, w_e_1_3, w_e_1_4, w_k_2, w_e_2_0, w_e_2_1, w_e_2_2, w_e_2_3, w_e_2_4, w_k_3, w_e_3_0, w_e_3_1, w_e_3_2, w_e_3_3, w_e_3_4, w_k_4, w_e_4_0, w_e_4_1, w_e_4_2, w_e_4_3, w_e_4_4, w_k_atn_NoBench, w_k_tx_BenchError_NoBench, w_k_q_NoBench_NoBench, w_k_q_NoBench_n, w_k_q_ValueError_NoBench, w_k_q_ValueError_n, w_k_q_NoNumber_NoBench, w_k_q_NoNumber_n, w_k_q_NoText_NoBench, w_k_q_NoText_n, w_k_q_NoTable_NoBench, w_k_q_NoTable_n, w_k_q_NoBox_NoBench, w_k_q_NoBox_n, w_k_q_NoStock_NoBench, w_k_q_NoStock_n, w_k_q_NoWish_NoBench, w_k_q_NoWish_n, w_k_q_NoRow_NoBench, w_k_q_NoRow_n, w_k_q_Unknown_NoBench, w_k_q_Unknown_n, pD, F_is_piece, B_is_piece, N_is_piece, E_is_piece_1, ratio_q, List.drop_succ_cons, List.drop_zero, List.drop]
  | stop a b =>
    have hl := is_less_eq b a h.2.1 h.1
    rw [decide_eq_false h.2.2] at hl
    simp_arith [w_k_0, w_e_0_0, w_e_0_1, w_e_0_2, w_e_0_3, w_e_0_4, w_k_1, w_e_1_0, w_e_1_1, w_e_1_2, w_e_1_3, w_e_1_4, w_k_2, w_e_2_0, w_e_2_1, w_e_2_2, w_e_2_3, w_e_2_4, w_k_3, w_e_3_0, w_e_3_1, w_e_3_2, w_e_3_3, w_e_3_4, w_k_4, w_e_4_0, w_e_4_1, w_e_4_2, w_e_4_3, w_e_4_4, w_k_atn_NoBench, w_k_tx_BenchError_NoBench, w_k_q_NoBench_NoBench, w_k_q_NoBench_n, w_k_q_ValueError_NoBench, w_k_q_ValueError_n, w_k_q_NoNumber_NoBench, w_k_q_NoNumber_n, w_k_q_NoText_NoBench, w_k_q_NoText_n, w_k_q_NoTable_NoBench, w_k_q_NoTable_n, w_k_q_NoBox_NoBench, w_k_q_NoBox_n, w_k_q_NoStock_NoBench, w_k_q_NoStock_n, w_k_q_NoWish_NoBench, w_k_q_NoWish_n, w_k_q_NoRow_NoBench, w_k_q_NoRow_n, w_k_q_Unknown_NoBench, w_k_q_Unknown_n, pD, F_is_piece, B_is_piece, N_is_piece, E_is_piece_1, ratio_q, List.drop_succ_cons, List.drop_zero, List.drop, hl]
theorem look_at_eq (ps : List Pc) (h : ps.length ≤ 60) (hp : ∀ p ∈ ps, okPc 4000 p) : F_look_at [.lst (ps.map pD)] = .ret .non none := by
  have lp : ∀ (ps : List Pc) (n : Nat) (a c1 c2 : Cell), (∀ p ∈ ps, okPc 4000 p) → ∃ d1 d2, forR (tgTup (tgCons (tgN 1) (tgCons (tgN 2) (tgNil)))) L_look_at_1 (enumL (ps.map pD) n) [a, c1, c2] = .nx [a, d1, d2] := by
    intro ps
    induction ps with
    | nil => intro n a c1 c2 _; exact ⟨c1, c2, rfl⟩
    | cons p ps ih =>
      intro n a c1 c2 hp
      obtain ⟨d1, d2, h⟩ := ih (n + 1) a (.val (.int n)) (.val (pD p)) fun q hq => hp q (List.mem_cons_of_mem _ hq)
      refine ⟨d1, d2, ?_⟩
      have e := is_piece_eq p (hp p List.mem_cons_self)
      rw [List.map_cons, enumL, forR]
      have e2 : L_look_at_1 [a, .val (.int n), .val (pD p)] = .nx [a, .val (.int n), .val (pD p)] := by simp_arith [L_look_at_1, e]
      simp_arith [if_true]
      rw [e2]
      dsimp only
      exact h
  obtain ⟨c1, c2, e⟩ := lp ps 0 (.val (.lst (ps.map pD))) .no .no hp
  have hl : ¬ ((60 : Int) < (ps.length : Int)) := by omega
  simp_arith [F_look_at, B_look_at, N_look_at, kc_MOST, List.length_map, hl, e]
theorem cell_at_eq (cs : List Int) (k : Nat) : F_ulaw_cell_at [.lst (cs.map D.int), .int k] = .ret (.int (cellAt cs k)) none := by
  by_cases h : k < cs.length
  · have h' : (k : Int) < (cs.length : Int) := by omega
    have g := getD_map cs k h
    simp_arith [F_ulaw_cell_at, B_ulaw_cell_at, N_ulaw_cell_at, List.length_map, h', Int.toNat_natCast, g]
  · have h' : ¬ (k : Int) < (cs.length : Int) := by omega
    have g : cellAt cs k = 0 := by unfold cellAt; rw [List.getD_eq_getElem?_getD, List.getElem?_eq_none_iff.mpr (by omega)]; rfl
    simp_arith [F_ulaw_cell_at, B_ulaw_cell_at, N_ulaw_cell_at, List.length_map, h', g]
theorem lwhole_int (i : Int) : F_ulaw_whole [.int i] = .ret (.bl true) none := by
  simp_arith [F_ulaw_whole, B_ulaw_whole, N_ulaw_whole]
/-- all rays on the way are small -/
def PreSz (ps : List Pc) (r : Ry) : Prop := ∀ a b, ps = a ++ b → SzR 3900 (bends a r)
theorem PreSz.head {ps : List Pc} {r : Ry} (h : PreSz ps r) : SzR 3900 r := h [] ps rfl
theorem PreSz.tail {p : Pc} {ps : List Pc} {r : Ry} (h : PreSz (p :: ps) r) : PreSz ps (bend r p) := fun a b e => h (p :: a) b (by rw [e]; rfl)
theorem PreSz.pre {ps qs rs : List Pc} {r : Ry} (h : PreSz ps r) (e : ps = qs ++ rs) : PreSz qs r := fun a b z => h a (b ++ rs) (by rw [e, z, List.append_assoc])
theorem PreSz.last {ps : List Pc} {r : Ry} (h : PreSz ps r) : SzR 3900 (bends ps r) := h ps [] (List.append_nil ps).symm
/-- what a piece may hold there -/
def PcS : Pc → Prop
  | .gap q => Sz 80 q
  | .glass q => Sz 80 q
  | .stop a b => Sz 4000 a ∧ Sz 4000 b ∧ ¬ b < a
theorem PcW.s {w : Nat} (hw : w ≤ 39) : ∀ {p : Pc}, PcW w p → PcS p
  | .gap _, h => Pw.sz' h (by omega)
  | .glass _, h => Pw.sz' h (by omega)
  | .stop _ _, h => ⟨Pw.sz' h.1 (by omega), Pw.sz' h.2.1 (by omega), h.2.2⟩
theorem plain_sz {v n : Nat} (ps : List Pc) (hp : ∀ p ∈ ps, isStop p = false → PcW v p) (hk : (2 * v + 1) * ps.length < n) : SzT n (tbs ps) := by
  rw [← tbs_plain]
  refine tbs_sz (plain ps) (fun p z => ?_) (Nat.lt_of_le_of_lt (Nat.mul_le_mul_left _ (plain_len ps)) hk)
  have := (List.mem_filter.mp z).2
  exact hp p (plain_mem z) (by simpa using this)
theorem preSz {v n N : Nat} (ps : List Pc) (r : Ry) (hp : ∀ p ∈ ps, isStop p = false → PcW v p) (hk : (2 * v + 1) * ps.length < n) (hr : SzR N r) (h : 2 * (n + N) + 1 ≤ 3900) : PreSz ps r := fun a b e => by
  have z : SzT n (tbs a) := plain_sz a (fun p q => hp p (by rw [e]; exact List.mem_append.mpr (.inl q))) (Nat.lt_of_le_of_lt (Nat.mul_le_mul_left _ (by rw [e, List.length_append]; omega)) hk)
  rw [← tbs_on]
  exact ⟨((z.1.mul hr.1).add (z.2.1.mul hr.2)).le (by omega), ((z.2.2.1.mul hr.1).add (z.2.2.2.mul hr.2)).le (by omega)⟩
theorem ix_pcs (ps : List Pc) {k : Nat} {p : Pc} (h : ps[k]? = some p) : ixD (.lst (ps.map pD)) (.int (k : Int)) = some (.dat (pD p)) := by
  have hk : k < ps.length := (List.getElem?_eq_some_iff.mp h).1
  have g : (ps.map pD)[k]? = some (pD p) := by rw [List.getElem?_map, h]; rfl
  simp_arith [List.length_map, Int.toNat_natCast, g]
theorem sl_pcs (ps : List Pc) (k : Nat) : slD (.lst (ps.map pD)) none (some (k : Int)) = some (.fresh (.lst ((ps.take k).map pD))) := by
  simp_arith [Int.toNat_natCast, List.map_take]
theorem nol_qs : ∀ qs : List Rat, nolsts (qs.map qD) = true
  | [] => rfl
  | q :: qs => by rw [List.map_cons, nolsts, nol_qD, nol_qs qs]; rfl
theorem filt_map (c : Rat → Bool) : ∀ us : List Rat, us.filterMap (fun u => if c u = true then some (qD u) else none) = (us.filter c).map qD
  | [] => rfl
  | u :: us => by
    have ih := filt_map c us
    cases h : c u <;> simp [h, ih]
theorem half_mid {x y : Rat} (h : ¬ y < x) : ¬ (x + y) / 2 < x ∧ ¬ y < (x + y) / 2 := by
  have e : (x + y) / 2 * 2 = x + y := Rat.div_mul_cancel (by decide)
  constructor <;> grind
theorem two_q : D.tup [.int 2, .int 1] = qD 2 := rfl
theorem sz_two : Sz 2 (2 : Rat) := ⟨by decide, by decide⟩
theorem all_flt_q (us : List Rat) : (us.map qD).all (flt 63) = true := by
  rw [List.all_eq_true]
  intro d hd
  obtain ⟨u, _, rfl⟩ := List.mem_map.mp hd
  exact flt_q 62 u
theorem flt_pcs (ps : List Pc) : (ps.map pD).all (flt 63) = true := by
  rw [List.all_eq_true]
  intro d hd
  obtain ⟨p, _, rfl⟩ := List.mem_map.mp hd
  exact flat_pD 61 p
theorem num_neg (q : Rat) : q.num < 0 ↔ q < 0 := by
  have h := q_lt q 0
  have e : (0 : Rat).num = 0 := rfl
  have d : ((0 : Rat).den : Int) = 1 := rfl
  rw [e, d, Int.mul_one, Int.zero_mul] at h
  exact h
def absQ (q : Rat) : Rat := if q < 0 then -q else q
theorem abs_tup (q : Rat) : D.tup [.int (q.num.natAbs : Int), .int q.den] = qD (absQ q) := by
  unfold absQ qD
  by_cases h : q < 0
  · rw [if_pos h, Rat.neg_num, Rat.neg_den]
    have : q.num < 0 := (num_neg q).mpr h
    rw [show ((q.num.natAbs : Nat) : Int) = -q.num by omega]
  · rw [if_neg h]
    have : ¬ q.num < 0 := fun z => h ((num_neg q).mp z)
    rw [show ((q.num.natAbs : Nat) : Int) = q.num by omega]
theorem abs_nn (q : Rat) : ¬ absQ q < 0 := by unfold absQ; split <;> grind
theorem abs_sz {n : Nat} {q : Rat} (h : Sz n q) : Sz n (absQ q) := by unfold absQ; split; exact h.neg; exact h
theorem low_eq (a b : Int) (h0 : 0 < b) (hb : b.natAbs < 2 ^ 8500) : F_ulaw_low [.int a, .int b] = .ret (qD (Rat.divInt a b)) none := by
  have g0 : (0 : Int) < (Int.gcd a b : Int) := by
    have := Int.gcd_pos_of_ne_zero_right a (b := b) (by omega)
    omega
  have g1 : Int.gcd a b ≤ b.natAbs := Nat.gcd_le_right _ (by omega)
  have g2 : (Int.gcd a b : Int).natAbs < 2 ^ 9000 := by
    rw [Int.natAbs_natCast]
    exact Nat.lt_of_le_of_lt g1 (Nat.lt_trans hb (Nat.pow_lt_pow_right (by decide) (by decide)))
  obtain ⟨k, hk⟩ := while_gcd (t := T_ulaw_low_1) (F := L_ulaw_low_2) (fun x y => [.val (.int a), .val (.int b), .val (.int x), .val (.int y)])
    (fun x y => by simp_arith [T_ulaw_low_1])
    (fun x y hy => by simp_arith [L_ulaw_low_2])
    (b.toNat + 1) a.natAbs b (by omega) (by omega) (by omega)
  have e : Int.gcd (a.natAbs : Int) b = Int.gcd a b := by simp only [Int.gcd, Int.natAbs_natCast]
  rw [e] at hk
  rw [← q_pos a b h0]
  simp_arith [F_ulaw_low, B_ulaw_low, N_ulaw_low, while_nx hk, d_div_pos _ _ g0 g2]
theorem low_q (q : Rat) (h : Sz 8000 q) : F_ulaw_low [.int q.num, .int q.den] = .ret (qD q) none := by
  have := low_eq q.num q.den (den_pos' q) (by rw [Int.natAbs_natCast]; exact Nat.lt_trans h.2 (Nat.pow_lt_pow_right (by decide) (by decide)))
  rwa [q_self] at this
theorem under_eq (p q : Rat) (h : Sz 4000 p) (h2 : Sz 4000 q) : F_ulaw_under [qD p, qD q] = .ret (.bl (decide (p < q))) none := by
  have m1 := mulSz h.1 (denA h2)
  have m2 := mulSz h2.1 (denA h)
  have e : decide (p.num * q.den < q.num * p.den) = decide (p < q) := decide_eq_decide.mpr (q_lt p q)
  rw [← e]
  unfold qD
  simp_arith [F_ulaw_under, B_ulaw_under, N_ulaw_under, m1, m2]
def drD (a : Int) (cs : List Int) (k : Int) : D := .lst [.int a, .lst (cs.map D.int), .int k]
def okD (s : D) : Prop := ∃ a cs k, s = drD a cs k ∧ 0 < cs.length ∧ cs.length ≤ 100
theorem drawn_ok (ns : List Int) (a : Int) : ∃ s, F_ulaw_drawn [.lst (ns.map D.int), .int a] = .own s none ∧ okD s := by
  refine ⟨drD a (ns.take 60 ++ [a]) 0, ?_, a, _, 0, rfl, by simp, by simp; omega⟩
  have l : (ns.take 60).length ≤ 60 := by simp; omega
  simp_arith [F_ulaw_drawn, B_ulaw_drawn, N_ulaw_drawn, drD, List.map_append, List.map_take, List.map_cons, List.map_nil, List.length_map]
theorem draw_ex (s : D) (m : Int) (hs : okD s) (hm : 0 < m) (hm2 : m < 1000000000) : ∃ r s', F_ulaw_draw [s, .int m] = .ret (.int r) (some s') ∧ 0 ≤ r ∧ r < m ∧ okD s' := by
  obtain ⟨a, cs, k, rfl, h1, h2⟩ := hs
  have b0 := Int.emod_nonneg (k + 1) (show (cs.length : Int) ≠ 0 by omega)
  have b1 := Int.emod_lt_of_pos (k + 1) (show (0 : Int) < (cs.length : Int) by omega)
  have m9 : m.natAbs < 2 ^ 9000 := Nat.lt_trans (show m.natAbs < 2 ^ 40 by omega) (Nat.pow_lt_pow_right (by decide) (by decide))
  have md : modD (.int (k + 1)) (.int (cs.length : Int)) = some (.dat (.int ((k + 1) % (cs.length : Int)))) := d_mod_pos _ _ (by omega)
  obtain ⟨j, hj⟩ := Int.eq_ofNat_of_zero_le b0
  rw [hj] at b1 md
  have gx : ixD (.lst (cs.map D.int)) (.int (j : Int)) = some (.dat (.int (cellAt cs j))) := by
    have := getD_map cs j (by omega)
    rw [x_lst]
    simp_arith [List.length_map, Int.toNat_natCast, this]
  refine ⟨(a * 48271 + cellAt cs j % 2147483647 + (k + 1)) % 2147483629 / 64 % m, drD ((a * 48271 + cellAt cs j % 2147483647 + (k + 1)) % 2147483629) cs (k + 1), ?_, Int.emod_nonneg _ (by omega), Int.emod_lt_of_pos _ hm, _, cs, _, rfl, h1, h2⟩
  simp_arith [F_ulaw_draw, B_ulaw_draw, N_ulaw_draw, drD, List.length_map, md, gx, m9]
theorem part_near (s : D) (hs : okD s) : ∃ q s', F_ulaw_part [s, .bl false] = .ret (qD q) (some s') ∧ Pw 11 q ∧ okD s' := by
  obtain ⟨i, s1, h1, i0, i1, o1⟩ := draw_ex s 9 hs (by decide) (by decide)
  obtain ⟨k, hk, k0, k1⟩ : ∃ k : Int, ([.int 21, .int 1999] : List D)[(if decide (i = 1) = true then (1 : Int) else 0).toNat]? = some (.int k) ∧ 0 < k ∧ k < 2000 := by
    by_cases h : i = 1
    · rw [decide_eq_true h]; exact ⟨1999, rfl, by decide, by decide⟩
    · rw [decide_eq_false h]; exact ⟨21, rfl, by decide, by decide⟩
  obtain ⟨x, s2, h2, x0, x1, o2⟩ := draw_ex s1 k o1 k0 (by omega)
  obtain ⟨y, s3, h3, y0, y1, o3⟩ := draw_ex s2 4 o2 (by decide) (by decide)
  obtain ⟨z, s4, h4, z0, z1, o4⟩ := draw_ex s3 12 o3 (by decide) (by decide)
  obtain ⟨j, s5, h5, j0, j1, o5⟩ := draw_ex s4 4 o4 (by decide) (by decide)
  obtain ⟨l, hl, l0, l1⟩ : ∃ l : Int, ([.int 0, .int 0, .int y, .int z] : List D)[j.toNat]? = some (.int l) ∧ 0 ≤ l ∧ l < 12 := by
    obtain rfl | rfl | rfl | rfl : j = 0 ∨ j = 1 ∨ j = 2 ∨ j = 3 := by omega
    · exact ⟨0, rfl, by decide, by decide⟩
    · exact ⟨0, rfl, by decide, by decide⟩
    · exact ⟨y, rfl, by omega, by omega⟩
    · exact ⟨z, rfl, by omega, by omega⟩
  obtain ⟨g, s6, h6, g0, g1, o6⟩ := draw_ex s5 2 o5 (by decide) (by decide)
  have b9 : (1 + l).natAbs < 2 ^ 8500 := Nat.lt_trans (show (1 + l).natAbs < 2 ^ 9 by omega) (Nat.pow_lt_pow_right (by decide) (by decide))
  by_cases n : g = 1
  · refine ⟨Rat.divInt (0 - x) (1 + l), s6, ?_, pw_div (by omega) (by omega) (by omega), o6⟩
    have lo := low_eq (0 - x) (1 + l) (by omega) b9
    simp_arith [F_ulaw_part, B_ulaw_part, N_ulaw_part, h1, h2, h3, h4, h5, h6, hk, hl, n, lo]
  · refine ⟨Rat.divInt x (1 + l), s6, ?_, pw_div (by omega) (by omega) (by omega), o6⟩
    have lo := low_eq x (1 + l) (by omega) b9
    simp_arith [F_ulaw_part, B_ulaw_part, N_ulaw_part, h1, h2, h3, h4, h5, h6, hk, hl, n, lo]
theorem part_far (s : D) (hs : okD s) : ∃ q s', F_ulaw_part [s, .bl true] = .ret (qD q) (some s') ∧ Pw 51 q ∧ okD s' := by
  obtain ⟨i, s1, h1, i0, i1, o1⟩ := draw_ex s 3 hs (by decide) (by decide)
  by_cases n0 : i = 0
  · obtain ⟨x, s2, h2, x0, x1, o2⟩ := draw_ex s1 33554432 o1 (by decide) (by decide)
    obtain ⟨y, s3, h3, y0, y1, o3⟩ := draw_ex s2 33554432 o2 (by decide) (by decide)
    obtain ⟨z, s4, h4, z0, z1, o4⟩ := draw_ex s3 33554432 o3 (by decide) (by decide)
    obtain ⟨w, s5, h5, w0, w1, o5⟩ := draw_ex s4 33554432 o4 (by decide) (by decide)
    have t0 := Int.emod_nonneg (x * 33554432 + y) (show (1999999999999999 : Int) ≠ 0 by decide)
    have t1 := Int.emod_lt_of_pos (x * 33554432 + y) (show (0 : Int) < 1999999999999999 by decide)
    have u0 := Int.emod_nonneg (z * 33554432 + w) (show (999999999999999 : Int) ≠ 0 by decide)
    have u1 := Int.emod_lt_of_pos (z * 33554432 + w) (show (0 : Int) < 999999999999999 by decide)
    have b9 : (1 + (z * 33554432 + w) % 999999999999999).natAbs < 2 ^ 8500 := Nat.lt_trans (show (1 + (z * 33554432 + w) % 999999999999999).natAbs < 2 ^ 60 by omega) (Nat.pow_lt_pow_right (by decide) (by decide))
    have lo := low_eq ((x * 33554432 + y) % 1999999999999999 - 1000000000000000 + 1) (1 + (z * 33554432 + w) % 999999999999999) (by omega) b9
    refine ⟨_, s5, ?_, pw_div (a := (x * 33554432 + y) % 1999999999999999 - 1000000000000000 + 1) (b := 1 + (z * 33554432 + w) % 999999999999999) (by omega) (by omega) (by omega), o5⟩
    simp_arith [F_ulaw_part, B_ulaw_part, N_ulaw_part, h1, h2, h3, h4, h5, n0, lo]
  · obtain ⟨i, s1, h1', i0, i1, o1⟩ := draw_ex s1 9 o1 (by decide) (by decide)
    obtain ⟨k, hk, k0, k1⟩ : ∃ k : Int, ([.int 21, .int 1999] : List D)[(if decide (i = 1) = true then (1 : Int) else 0).toNat]? = some (.int k) ∧ 0 < k ∧ k < 2000 := by
      by_cases h : i = 1
      · rw [decide_eq_true h]; exact ⟨1999, rfl, by decide, by decide⟩
      · rw [decide_eq_false h]; exact ⟨21, rfl, by decide, by decide⟩
    obtain ⟨x, s2, h2, x0, x1, o2⟩ := draw_ex s1 k o1 k0 (by omega)
    obtain ⟨y, s3, h3, y0, y1, o3⟩ := draw_ex s2 4 o2 (by decide) (by decide)
    obtain ⟨z, s4, h4, z0, z1, o4⟩ := draw_ex s3 12 o3 (by decide) (by decide)
    obtain ⟨j, s5, h5, j0, j1, o5⟩ := draw_ex s4 4 o4 (by decide) (by decide)
    obtain ⟨l, hl, l0, l1⟩ : ∃ l : Int, ([.int 0, .int 0, .int y, .int z] : List D)[j.toNat]? = some (.int l) ∧ 0 ≤ l ∧ l < 12 := by
      obtain rfl | rfl | rfl | rfl : j = 0 ∨ j = 1 ∨ j = 2 ∨ j = 3 := by omega
      · exact ⟨0, rfl, by decide, by decide⟩
      · exact ⟨0, rfl, by decide, by decide⟩
      · exact ⟨y, rfl, by omega, by omega⟩
      · exact ⟨z, rfl, by omega, by omega⟩
    obtain ⟨g, s6, h6, g0, g1, o6⟩ := draw_ex s5 2 o5 (by decide) (by decide)
    have b9 : (1 + l).natAbs < 2 ^ 8500 := Nat.lt_trans (show (1 + l).natAbs < 2 ^ 9 by omega) (Nat.pow_lt_pow_right (by decide) (by decide))
    by_cases n : g = 1
    · refine ⟨Rat.divInt (0 - x) (1 + l), s6, ?_, pw_div (by omega) (by omega) (by omega), o6⟩
      have lo := low_eq (0 - x) (1 + l) (by omega) b9
      simp_arith [F_ulaw_part, B_ulaw_part, N_ulaw_part, h1, h1', n0, h2, h3, h4, h5, h6, hk, hl, n, lo]
    · refine ⟨Rat.divInt x (1 + l), s6, ?_, pw_div (by omega) (by omega) (by omega), o6⟩
      have lo := low_eq x (1 + l) (by omega) b9
      simp_arith [F_ulaw_part, B_ulaw_part, N_ulaw_part, h1, h1', n0, h2, h3, h4, h5, h6, hk, hl, n, lo]
def parW (far : Bool) : Nat := if far then 51 else 11
theorem part_ex (s : D) (far : Bool) (hs : okD s) : ∃ q s', F_ulaw_part [s, .bl far] = .ret (qD q) (some s') ∧ Pw (parW far) q ∧ okD s' := by
  cases far
  · exact part_near s hs
  · exact part_far s hs
theorem parW_le (far : Bool) : 2 * parW far + 1 ≤ 4000 := by cases far <;> decide
theorem piece_ex (s : D) (far : Bool) (hs : okD s) : ∃ p s', F_ulaw_piece [s, .bl far] = .ret (pD p) (some s') ∧ PcW (parW far) p ∧ okD s' := by
  obtain ⟨i, s1, h1, i0, i1, o1⟩ := draw_ex s 5 hs (by decide) (by decide)
  obtain ⟨x, s2, h2, zx, o2⟩ := part_ex s1 far o1
  by_cases c2 : i < 2
  · refine ⟨.gap x, s2, ?_, zx, o2⟩
    simp_arith [w_k_0, w_e_0_0, w_e_0_1, w_e_0_2, w_e_0_3, w_e_0_4, w_k_1, w_e_1_0, w_e_1_1, w_e_1_2, w_e_1_3, w_e_1_4, w_k_2, w_e_2_0, w_e_2_1, w_e_2_2, w_e_2_3, w_e_2_4, w_k_3, w_e_3_0, w_e_3_1, w_e_3_2, w_e_3_3, w_e_3_4, w_k_4, w_e_4_0, w_e_4_1, w_e_4_2, w_e_4_3, w_e_4_4, w_k_atn_NoBench, w_k_tx_BenchError_NoBench, w_k_q_NoBench_NoBench, w_k_q_NoBench_n, w_k_q_ValueError_NoBench, w_k_q_ValueError_n, w_k_q_NoNumber_NoBench, w_k_q_NoNumber_n, w_k_q_NoText_NoBench, w_k_q_NoText_n, w_k_q_NoTable_NoBench, w_k_q_NoTable_n, w_k_q_NoBox_NoBench, w_k_q_NoBox_n, w_k_q_NoStock_NoBench, w_k_q_NoStock_n, w_k_q_NoWish_NoBench, w_k_q_NoWish_n, w_k_q_NoRow_NoBench, w_k_q_NoRow_n, w_k_q_Unknown_NoBench, w_k_q_Unknown_n, F_ulaw_piece, B_ulaw_piece, N_ulaw_piece, h1, h2, c2, pD]
  · by_cases c4 : i < 4
    · refine ⟨.glass x, s2, ?_, zx, o2⟩
      simp_arith [w_k_0, w_e_0_0, w_e_0_1, w_e_0_2, w_e_0_3, w_e_0_4, w_k_1, w_e_1_0, w_e_1_1, w_e_1_2, w_e_1_3, w_e_1_4, w_k_2, w_e_2_0, w_e_2_1, w_e_2_2, w_e_2_3, w_e_2_4, w_k_3, w_e_3_0, w_e_3_1, w_e_3_2, w_e_3_3, w_e_3_4, w_k_4, w_e_4_0, w_e_4_1, w_e_4_2, w_e_4_3, w_e_4_4, w_k_atn_NoBench, w_k_tx_BenchError_NoBench, w_k_q_NoBench_NoBench, w_k_q_NoBench_n, w_k_q_ValueError_NoBench, w_k_q_ValueError_n, w_k_q_NoNumber_NoBench, w_k_q_NoNumber_n, w_k_q_NoText_NoBench, w_k_q_NoText_n, w_k_q_NoTable_NoBench, w_k_q_NoTable_n, w_k_q_NoBox_NoBench, w_k_q_NoBox_n, w_k_q_NoStock_NoBench, w_k_q_NoStock_n, w_k_q_NoWish_NoBench, w_k_q_NoWish_n, w_k_q_NoRow_NoBench, w_k_q_NoRow_n, w_k_q_Unknown_NoBench, w_k_q_Unknown_n, F_ulaw_piece, B_ulaw_piece, N_ulaw_piece, h1, h2, c2, c4, pD]
    · obtain ⟨y, s3, h3, zy, o3⟩ := part_ex s2 far o2
      have u := under_eq y x (zy.sz' (parW_le far)) (zx.sz' (parW_le far))
      by_cases l : y < x
      · refine ⟨.stop y x, s3, ?_, ⟨zy, zx, fun z => ?_⟩, o3⟩
        · simp_arith [w_k_0, w_e_0_0, w_e_0_1, w_e_0_2, w_e_0_3, w_e_0_4, w_k_1, w_e_1_0, w_e_1_1, w_e_1_2, w_e_1_3, w_e_1_4, w_k_2, w_e_2_0, w_e_2_1, w_e_2_2, w_e_2_3, w_e_2_4, w_k_3, w_e_3_0, w_e_3_1, w_e_3_2, w_e_3_3, w_e_3_4, w_k_4, w_e_4_0, w_e_4_1, w_e_4_2, w_e_4_3, w_e_4_4, w_k_atn_NoBench, w_k_tx_BenchError_NoBench, w_k_q_NoBench_NoBench, w_k_q_NoBench_n, w_k_q_ValueError_NoBench, w_k_q_ValueError_n, w_k_q_NoNumber_NoBench, w_k_q_NoNumber_n, w_k_q_NoText_NoBench, w_k_q_NoText_n, w_k_q_NoTable_NoBench, w_k_q_NoTable_n, w_k_q_NoBox_NoBench, w_k_q_NoBox_n, w_k_q_NoStock_NoBench, w_k_q_NoStock_n, w_k_q_NoWish_NoBench, w_k_q_NoWish_n, w_k_q_NoRow_NoBench, w_k_q_NoRow_n, w_k_q_Unknown_NoBench, w_k_q_Unknown_n, F_ulaw_piece, B_ulaw_piece, N_ulaw_piece, h1, h2, h3, c2, c4, pD, u, l]
        · grind
      · refine ⟨.stop x y, s3, ?_, ⟨zx, zy, l⟩, o3⟩
        simp_arith [w_k_0, w_e_0_0, w_e_0_1, w_e_0_2, w_e_0_3, w_e_0_4, w_k_1, w_e_1_0, w_e_1_1, w_e_1_2, w_e_1_3, w_e_1_4, w_k_2, w_e_2_0, w_e_2_1, w_e_2_2, w_e_2_3, w_e_2_4, w_k_3, w_e_3_0, w_e_3_1, w_e_3_2, w_e_3_3, w_e_3_4, w_k_4, w_e_4_0, w_e_4_1, w_e_4_2, w_e_4_3, w_e_4_4, w_k_atn_NoBench, w_k_tx_BenchError_NoBench, w_k_q_NoBench_NoBench, w_k_q_NoBench_n, w_k_q_ValueError_NoBench, w_k_q_ValueError_n, w_k_q_NoNumber_NoBench, w_k_q_NoNumber_n, w_k_q_NoText_NoBench, w_k_q_NoText_n, w_k_q_NoTable_NoBench, w_k_q_NoTable_n, w_k_q_NoBox_NoBench, w_k_q_NoBox_n, w_k_q_NoStock_NoBench, w_k_q_NoStock_n, w_k_q_NoWish_NoBench, w_k_q_NoWish_n, w_k_q_NoRow_NoBench, w_k_q_NoRow_n, w_k_q_Unknown_NoBench, w_k_q_Unknown_n, F_ulaw_piece, B_ulaw_piece, N_ulaw_piece, h1, h2, h3, c2, c4, pD, u, l]
theorem forR_ex {g : FG} {F : FS} {d : D} {ds : List D} {e e1 e2 : DEnv} {x : Exn} (h1 : g d e = some e1) (h2 : F e1 = .ex x e2) : forR g F (d :: ds) e = .ex x e2 := by rw [forR, h1]; dsimp only; rw [h2]
abbrev noB (a : D) : Exn := ⟨"NoBench", some a⟩
theorem look_at_nolist (d : D) (h : isiB "list" d = some false) : F_look_at [d] = .ex (noB .non) none := by
  simp_arith [kc_MOST, F_look_at, B_look_at, N_look_at, h]
theorem look_at_long (xs : List D) (h : 60 < xs.length) (h2 : xs.length ≤ 1000000) : F_look_at [.lst xs] = .ex (noB .non) none := by
  have hl : (60 : Int) < (xs.length : Int) := by omega
  simp_arith [kc_MOST, F_look_at, B_look_at, N_look_at, hl]
theorem look_at_bad (ps : List Pc) (d : D) (rest : List D) (hp : ∀ p ∈ ps, okPc 4000 p) (hd : F_is_piece [d] = .ret (.bl false) none) (hl : (ps.map pD ++ d :: rest).length ≤ 60) : F_look_at [.lst (ps.map pD ++ d :: rest)] = .ex (noB (.int ps.length)) none := by
  have lp : ∀ (ps : List Pc) (n : Nat) (a c1 c2 : Cell), (∀ p ∈ ps, okPc 4000 p) → ∃ e, forR (tgTup (tgCons (tgN 1) (tgCons (tgN 2) (tgNil)))) L_look_at_1 (enumL (ps.map pD ++ d :: rest) n) [a, c1, c2] = .ex (noB (.int (n + ps.length : Nat))) e := by
    intro ps
    induction ps with
    | nil =>
      intro n a c1 c2 _
      have t : L_look_at_1 [a, .val (.int n), .val d] = .ex (noB (.int n)) [a, .val (.int n), .val d] := by simp_arith [L_look_at_1, hd]
      exact ⟨_, forR_ex (e1 := [a, .val (.int n), .val d]) rfl t⟩
    | cons p ps ih =>
      intro n a c1 c2 hp
      obtain ⟨e, h⟩ := ih (n + 1) a (.val (.int n)) (.val (pD p)) fun q hq => hp q (List.mem_cons_of_mem _ hq)
      have e1 := is_piece_eq p (hp p List.mem_cons_self)
      have t : L_look_at_1 [a, .val (.int n), .val (pD p)] = .nx [a, .val (.int n), .val (pD p)] := by simp_arith [L_look_at_1, e1]
      refine ⟨e, ?_⟩
      rw [List.map_cons, List.cons_append, enumL, forR_nx (e1 := [a, .val (.int n), .val (pD p)]) rfl t, h, List.length_cons, show n + 1 + ps.length = n + (ps.length + 1) by omega]
  obtain ⟨e, r⟩ := lp ps 0 (.val (.lst (ps.map pD ++ d :: rest))) .no .no hp
  rw [Nat.zero_add] at r
  generalize ps.map pD ++ d :: rest = xs at *
  have hl2 : ¬ ((60 : Int) < (xs.length : Int)) := by omega
  simp_arith [kc_MOST, F_look_at, B_look_at, N_look_at, hl2, r]
theorem rat_no (d : D) (h : isiB "tuple" d = some false) : F_is_ratio [d] = .ret (.bl false) none := by
  simp_arith [F_is_ratio, B_is_ratio, N_is_ratio, h]
theorem rat_bl (b : Bool) (e : D) (h : tyN e ≠ none) : F_is_ratio [.tup [.bl b, e]] = .ret (.bl false) none := by
  simp_arith [F_is_ratio, B_is_ratio, N_is_ratio, whole_bl]
theorem rat_22 : F_is_ratio [.tup [.int 2, .int 2]] = .ret (.bl false) none := by rw [ratio_t]; rfl
theorem rat_10 : F_is_ratio [.tup [.int 1, .int 0]] = .ret (.bl false) none := by rw [ratio_t]; rfl
theorem rat_02 : F_is_ratio [.tup [.int 0, .int 2]] = .ret (.bl false) none := by rw [ratio_t]; rfl
theorem rat_1m1 : F_is_ratio [.tup [.int 1, .int (-1)]] = .ret (.bl false) none := by rw [ratio_t]; rfl
end LAW

set_option Elab.async false
set_option maxRecDepth 100000
set_option linter.all false
set_option exponentiation.threshold 10000
set_option maxHeartbeats 1000000
local macro_rules | `(tactic| simp_arith [$ls,*]) => `(tactic| simp (disch := first | assumption | omega | (simp only [List.length_drop, List.length_take, List.length_map, List.length_append, List.length_cons, List.length_nil, List.length_reverse, DL.rngL_length]; omega) | (simp only [DL.tyN, ne_eq, reduceCtorEq, not_false_eq_true]) | (apply DL.Sz.le <;> (repeat' (first | assumption | (apply DL.Sz.add) | (apply DL.Sz.sub) | (apply DL.Sz.mul) | (apply DL.Sz.div) | (apply DL.Sz.neg) | exact DL.Sz.one | exact DL.Sz.zero | omega)))) only [DL.k_sSl, DL.k_slV, DL.k_slVO, DL.k_slP, DL.k_slPO, DL.k_bind_ok, DL.k_bind_ex, DL.k_bind_bot, DL.k_bindS_ok, DL.k_bindS_ex, DL.k_bindS_bot, DL.k_var, DL.k_look_val, DL.k_look_own, DL.k_look_no, DL.k_C, DL.k_frz_dat, DL.k_frz_fresh, DL.k_frz_pk, DL.k_frzC_own, DL.k_frzC_val, DL.k_res_dat, DL.k_res_fresh, DL.k_res_pk, DL.k_resC_own, DL.k_resC_val, DL.k_resL_nil, DL.k_resL_cons, DL.k_resLO, DL.k_consO, DL.k_items_nil, DL.k_items_cons, DL.k_itK, DL.k_itO, DL.k_itC, DL.k_tup, DL.k_tupK, DL.k_lst, DL.k_lstK, DL.k_dct0, DL.k_op, DL.k_opK, DL.k_opK2, DL.k_pOpO, DL.k_oPV, DL.k_oPV_if, DL.k_oPV_none, DL.k_neg, DL.k_negK, DL.k_and, DL.k_andK, DL.k_or, DL.k_orK, DL.k_not, DL.k_notK, DL.k_tof, DL.k_tofK, DL.k_tand, DL.k_tandK, DL.k_tor, DL.k_torK, DL.k_tnot, DL.k_tnotK, DL.k_ttrue, DL.k_if, DL.k_ifK, DL.k_chain, DL.k_ch0, DL.k_ch1, DL.k_ch2, DL.k_ch3, DL.k_pNone, DL.k_pSome, DL.k_psK, DL.k_sl, DL.k_sl1, DL.k_sl2, DL.k_sl3, DL.k_slO, DL.k_args_nil, DL.k_args_cons, DL.k_arK, DL.k_arC, DL.k_frzF_dat, DL.k_frzF_fresh, DL.k_frzF_pk, DL.k_callB, DL.k_cbK, DL.k_cbO, DL.k_isi, DL.k_isK, DL.k_isDD, DL.k_isO, DL.k_bind_if, DL.k_bindS_if, DL.k_merge_and, DL.k_merge_or, DL.k_merge_tand, DL.k_merge_tor, DL.k_aft_nil, DL.k_aft_true, DL.k_aft_false, DL.nfr_nil, DL.nfr_dat, DL.nfr_pk, DL.k_call0, DL.k_callR0, DL.k_callB1, DL.k_callO, DL.k_callE_ret, DL.k_callE_own, DL.k_callE_ex, DL.k_callE_if, DL.k_bor_nil, DL.k_bor_dat, DL.k_bor_pk, DL.k_borC_own, DL.k_borC_val, DL.k_frzAll_nil, DL.k_frzAll_cons, DL.k_frzAt, DL.k_frzAtC_own, DL.k_frzAtC_val, DL.k_seq, DL.k_seq_nx, DL.k_seq_rt, DL.k_seq_bk, DL.k_seq_ct, DL.k_seq_ex, DL.k_seq_bot, DL.k_seq_if, DL.k_nx, DL.k_bk, DL.k_ct, DL.k_botS, DL.k_expr, DL.k_exK, DL.k_ret, DL.k_rtK, DL.k_retN, DL.k_sif, DL.k_sifK, DL.k_set, DL.k_setK, DL.k_putE, DL.k_put_dat, DL.k_put_fresh, DL.k_put_pk, DL.k_putP, DL.k_asg, DL.k_asgK, DL.k_asgO, DL.k_tgN, DL.k_tgTup, DL.k_tgNil, DL.k_tgCons, DL.k_tgO, DL.k_par, DL.k_parK, DL.k_fin_rt, DL.k_fin_nx, DL.k_fin_ex, DL.k_fin_bot, DL.k_fin_if, DL.k_finP_dat, DL.k_finP_fresh, DL.k_finP_pk, DL.k_finC_own, DL.k_finC_val, DL.k_for, DL.k_fiSeq, DL.k_fsK, DL.k_seqI_lst, DL.k_seqI_tup, DL.k_fiOf, DL.k_kOf, DL.k_oOf, DL.k_rng1, DL.k_rng2, DL.k_enum, DL.k_zip, DL.k_enum1, DL.k_zip2l, DL.k_zip2t, DL.k_zipL, DL.k_zipL0, DL.k_lc, DL.k_lcK, DL.k_lcQ, DL.k_lcB, DL.k_comp0, DL.k_wipe0, DL.k_wipe, DL.k_rest0, DL.k_rest, DL.k_nown0, DL.k_nown, DL.k_nown_val, DL.k_nown_no, DL.k_turn, DL.k_turnG, DL.k_turnT, DL.k_turnF, DL.k_turnK, DL.k_comp_cons, DL.k_compS, DL.k_toL, DL.k_toL0, DL.k_met, DL.k_metS, DL.k_metG, DL.k_metC, DL.k_metO, DL.k_bor, DL.k_borIn_own, DL.k_borIn_val, DL.k_borEnd, DL.k_borQ, DL.k_pvf_dat, DL.k_pvf_fresh, DL.k_own_own, DL.k_own_val, DL.k_own_no, DL.k_nl_int, DL.k_nl_bl, DL.k_nl_str, DL.k_nl_non, DL.k_nl_q, DL.k_nl_tup, DL.k_nls_nil, DL.k_nls_cons, DL.k_nlE_lst, DL.k_dle, DL.k_dlt, DL.k_zipL0r, DL.k_rev, DL.k_revK, DL.k_revO, DL.k_fiRev, DL.k_fiRevK, DL.k_fiRevO, DL.k_mk, DL.k_mkK, DL.k_mkQ, DL.k_fld, DL.k_fldF, DL.k_fldL, DL.k_mth, DL.k_mthF, DL.k_mthL, DL.k_mthC, DL.k_mthA, DL.k_noX, DL.k_nl_ins, DL.k_nl_lst, DL.k_by, DL.k_by1, DL.k_by2, DL.k_by3, DL.k_byO, DL.k_zipTL, DL.k_zipTL2, DL.k_callF, DL.k_cfK, DL.k_cfI, DL.k_cfO_ret, DL.k_cfO_own, DL.k_callM, DL.k_callM1, DL.k_callM2, DL.k_callM3, DL.k_cM, DL.k_cmO_ret, DL.k_cmO_own, DL.k_sIx, DL.k_sx1, DL.k_sxO, DL.k_sxC, DL.k_sx2, DL.k_sxF, DL.k_sxN, DL.k_ixN20, DL.k_ixN21, DL.k_finM_dat, DL.k_finM_fresh, DL.k_finM_pk, DL.k_fmD, DL.k_fmF, DL.k_fmP_own, DL.k_fmP_val, DL.k_m01, DL.k_m02, DL.k_m03, DL.k_tgLst, DL.k_ixN30, DL.k_ixN31, DL.k_ixN32, DL.k_ixN40, DL.k_ixN41, DL.k_ixN42, DL.k_ixN43, DL.k_rep, DL.k_rep1, DL.k_rep2, DL.k_repL, DL.k_repO, DL.k_mine_fresh, DL.k_mine_pk, DL.k_mineC, DL.k_times1, DL.k_try, DL.k_tryO_nx, DL.k_tryO_rt, DL.k_tryO_ex, DL.k_tryO_if, DL.k_tryH0, DL.k_tryH, DL.k_tryL1, DL.k_tryL0, DL.k_hdIn0, DL.k_hdIn1, DL.k_hdIn2, DL.k_hdOut0, DL.k_hdOut1, DL.k_hdOutr, DL.k_hdOut_if, DL.k_raise, DL.k_raiseA, DL.k_raK, DL.k_isC, DL.k_icK, DL.k_icD, DL.k_icO, DL.k_isCs, DL.k_icsK, DL.k_icsD, DL.k_isTs0, DL.k_isTs, DL.k_isTsL1, DL.k_isTsL0, DL.k_eAt, DL.k_atK, DL.k_atD, DL.k_atB, DL.k_isn_exn, DL.k_nl_exn, DL.d_app, DL.d_appQ, DL.d_all0, DL.d_all1, DL.d_all2, DL.d_all4, DL.q_flt, DL.q_deq, DL.q_shp, DL.q_npair, DL.q_lit0, DL.q_lit1, DL.q_ix0, DL.q_ix1, DL.q_isn_non, DL.q_isn_bl, DL.q_isn_int, DL.q_isn_str, DL.q_isn_tup, DL.q_isn_lst, DL.q_isn, DL.q_len, DL.q_ity, DL.d_in_lst, DL.d_nin_lst, DL.d_in_tup, DL.d_nin_tup, DL.d_inQ0, DL.d_inQ1, DL.d_in_sign, DL.d_nin_sign, DL.d_fl_non, DL.d_fl_bl, DL.d_fl_int, DL.d_fl_str, DL.q_last, DL.q_last2, DL.q_last1, DL.q_isn_opt, DL.d_shr, DL.d_int_bl, DL.d_int_t, DL.d_int_f, DL.d_add_int, DL.d_add_lstQ, DL.d_add_tupQ, DL.d_add_strQ, DL.d_addQ1, DL.d_sub_int, DL.d_mulR, DL.d_mulL, DL.d_mod_pos, DL.d_div_pos, DL.d_powL, DL.d_lt, DL.d_le, DL.d_gt, DL.d_ge, DL.d_eqQ, DL.d_eqQ1, DL.d_neQ, DL.d_neQ1, DL.q_non, DL.q_bl, DL.q_int, DL.q_bl_int, DL.q_int_bl, DL.q_str, DL.q_tup, DL.q_lst, DL.q_nil, DL.q_cons, DL.q_nil_cons, DL.q_cons_nil, DL.s_non, DL.s_bl, DL.s_int, DL.s_tupQ, DL.s_lstQ, DL.s_strQ, DL.s_Q1, DL.f_non, DL.f_bl, DL.f_int, DL.f_str, DL.f_tup, DL.f_lst, DL.d_is_non, DL.d_isn_non, DL.z_cast, DL.x_tup, DL.x_lst, DL.l_lst, DL.l_tup, DL.l_str, DL.n_abs, DL.n_min, DL.n_max, DL.n_list_l, DL.n_list_t, DL.n_tup_l, DL.n_tup_t, DL.n_int, DL.c_lst, DL.c_tup, DL.c_to, DL.c_from, DL.c_toL, DL.c_fromL, DL.c_all, DL.c_mid, DL.i_int_non, DL.i_int_bl, DL.i_int_int, DL.i_int_str, DL.i_int_tup, DL.i_int_lst, DL.i_int_dct, DL.i_bool_non, DL.i_bool_bl, DL.i_bool_int, DL.i_bool_str, DL.i_bool_tup, DL.i_bool_lst, DL.i_bool_dct, DL.i_str_non, DL.i_str_bl, DL.i_str_int, DL.i_str_str, DL.i_str_tup, DL.i_str_lst, DL.i_str_dct, DL.i_list_non, DL.i_list_bl, DL.i_list_int, DL.i_list_str, DL.i_list_tup, DL.i_list_lst, DL.i_list_dct, DL.i_tuple_non, DL.i_tuple_bl, DL.i_tuple_int, DL.i_tuple_str, DL.i_tuple_tup, DL.i_tuple_lst, DL.i_tuple_dct, DL.i_dict_non, DL.i_dict_bl, DL.i_dict_int, DL.i_dict_str, DL.i_dict_tup, DL.i_dict_lst, DL.i_dict_dct, DL.q_non_bl, DL.q_non_int, DL.q_non_str, DL.q_non_tup, DL.q_non_lst, DL.q_bl_non, DL.q_bl_str, DL.q_bl_tup, DL.q_bl_lst, DL.q_int_non, DL.q_int_str, DL.q_int_tup, DL.q_int_lst, DL.q_str_non, DL.q_str_bl, DL.q_str_int, DL.q_str_tup, DL.q_str_lst, DL.q_tup_non, DL.q_tup_bl, DL.q_tup_int, DL.q_tup_str, DL.q_tup_lst, DL.q_lst_non, DL.q_lst_bl, DL.q_lst_int, DL.q_lst_str, DL.q_lst_tup, DL.c_midL, List.getElem?_cons_zero, List.getElem?_cons_succ, List.set_cons_zero, List.set_cons_succ, List.getD_cons_zero, List.getD_cons_succ, List.length_cons, List.length_nil, List.all_cons, List.all_nil, Bool.and_true, Bool.true_and, Bool.and_false, Bool.false_and, Bool.or_true, Bool.true_or, Bool.or_false, Bool.false_or, Bool.not_true, Bool.not_false, if_true, if_false, reduceCtorEq, Nat.reduceAdd, Nat.reduceSub, Nat.zero_add, eq_self, Bool.false_eq_true, Option.map_some, Option.map_none, DL.fnD, DL.mkEnv, DL.cellsOf, List.cons_append, List.nil_append, List.append_nil, List.replicate, Int.reduceNeg, Int.reduceAdd, Int.reduceSub, Int.reduceMul, DL.a_pos, DL.a_neg, Int.reduceToNat, Int.reducePow, Nat.reducePow, Int.reduceEq, Int.reduceLT, Int.reduceLE, Int.reduceNe, Nat.reduceEqDiff, Nat.reduceLT, Nat.reduceLeDiff, ge_iff_le, Int.reduceMod, Int.reduceDiv, beq_self_eq_true, decide_true, decide_false, $ls,*])
namespace LAW
open PySem PySem.Spec L2 DL
theorem np_tup (d : D) (h : isiB "tuple" d = some false) : F_is_piece [d] = .ret (.bl false) none := by
  simp_arith [w_k_0, w_e_0_0, w_e_0_1, w_e_0_2, w_e_0_3, w_e_0_4, w_k_1, w_e_1_0, w_e_1_1, w_e_1_2, w_e_1_3, w_e_1_4, w_k_2, w_e_2_0, w_e_2_1, w_e_2_2, w_e_2_3, w_e_2_4, w_k_3, w_e_3_0, w_e_3_1, w_e_3_2, w_e_3_3, w_e_3_4, w_k_4, w_e_4_0, w_e_4_1, w_e_4_2, w_e_4_3, w_e_4_4, w_k_atn_NoBench, w_k_tx_BenchError_NoBench, w_k_q_NoBench_NoBench, w_k_q_NoBench_n, w_k_q_ValueError_NoBench, w_k_q_ValueError_n, w_k_q_NoNumber_NoBench, w_k_q_NoNumber_n, w_k_q_NoText_NoBench, w_k_q_NoText_n, w_k_q_NoTable_NoBench, w_k_q_NoTable_n, w_k_q_NoBox_NoBench, w_k_q_NoBox_n, w_k_q_NoStock_NoBench, w_k_q_NoStock_n, w_k_q_NoWish_NoBench, w_k_q_NoWish_n, w_k_q_NoRow_NoBench, w_k_q_NoRow_n, w_k_q_Unknown_NoBench, w_k_q_Unknown_n, F_is_piece, B_is_piece, N_is_piece, h]
theorem np_0 : F_is_piece [.tup []] = .ret (.bl false) none := by
  simp_arith [w_k_0, w_e_0_0, w_e_0_1, w_e_0_2, w_e_0_3, w_e_0_4, w_k_1, w_e_1_0, w_e_1_1, w_e_1_2, w_e_1_3, w_e_1_4, w_k_2, w_e_2_0, w_e_2_1, w_e_2_2, w_e_2_3, w_e_2_4, w_k_3, w_e_3_0, w_e_3_1, w_e_3_2, w_e_3_3, w_e_3_4, w_k_4, w_e_4_0, w_e_4_1, w_e_4_2, w_e_4_3, w_e_4_4, w_k_atn_NoBench, w_k_tx_BenchError_NoBench, w_k_q_NoBench_NoBench, w_k_q_NoBench_n, w_k_q_ValueError_NoBench, w_k_q_ValueError_n, w_k_q_NoNumber_NoBench, w_k_q_NoNumber_n, w_k_q_NoText_NoBench, w_k_q_NoText_n, w_k_q_NoTable_NoBench, w_k_q_NoTable_n, w_k_q_NoBox_NoBench, w_k_q_NoBox_n, w_k_q_NoStock_NoBench, w_k_q_NoStock_n, w_k_q_NoWish_NoBench, w_k_q_NoWish_n, w_k_q_NoRow_NoBench, w_k_q_NoRow_n, w_k_q_Unknown_NoBench, w_k_q_Unknown_n, F_is_piece, B_is_piece, N_is_piece]
theorem np_1 (x : D) : F_is_piece [.tup [x]] = .ret (.bl false) none := by
  simp_arith [w_k_0, w_e_0_0, w_e_0_1, w_e_0_2, w_e_0_3, w_e_0_4, w_k_1, w_e_1_0, w_e_1_1, w_e_1_2, w_e_1_3, w_e_1_4, w_k_2, w_e_2_0, w_e_2_1, w_e_2_2, w_e_2_3, w_e_2_4, w_k_3, w_e_3_0, w_e_3_1, w_e_3_2, w_e_3_3, w_e_3_4, w_k_4, w_e_4_0, w_e_4_1, w_e_4_2, w_e_4_3, w_e_4_4, w_k_atn_NoBench, w_k_tx_BenchError_NoBench, w_k_q_NoBench_NoBench, w_k_q_NoBench_n, w_k_q_ValueError_NoBench, w_k_q_ValueError_n, w_k_q_NoNumber_NoBench, w_k_q_NoNumber_n, w_k_q_NoText_NoBench, w_k_q_NoText_n, w_k_q_NoTable_NoBench, w_k_q_NoTable_n, w_k_q_NoBox_NoBench, w_k_q_NoBox_n, w_k_q_NoStock_NoBench, w_k_q_NoStock_n, w_k_q_NoWish_NoBench, w_k_q_NoWish_n, w_k_q_NoRow_NoBench, w_k_q_NoRow_n, w_k_q_Unknown_NoBench, w_k_q_Unknown_n, F_is_piece, B_is_piece, N_is_piece]
theorem np_s (x y : D) (r : List D) (hr : r.length ≤ 10) (h : isiB "str" x = some false) : F_is_piece [.tup (x :: y :: r)] = .ret (.bl false) none := by
  have l : ¬ ((r.length + 1 + 1 : Nat) : Int) < 2 := by omega
  simp_arith [w_k_0, w_e_0_0, w_e_0_1, w_e_0_2, w_e_0_3, w_e_0_4, w_k_1, w_e_1_0, w_e_1_1, w_e_1_2, w_e_1_3, w_e_1_4, w_k_2, w_e_2_0, w_e_2_1, w_e_2_2, w_e_2_3, w_e_2_4, w_k_3, w_e_3_0, w_e_3_1, w_e_3_2, w_e_3_3, w_e_3_4, w_k_4, w_e_4_0, w_e_4_1, w_e_4_2, w_e_4_3, w_e_4_4, w_k_atn_NoBench, w_k_tx_BenchError_NoBench, w_k_q_NoBench_NoBench, w_k_q_NoBench_n, w_k_q_ValueError_NoBench, w_k_q_ValueError_n, w_k_q_NoNumber_NoBench, w_k_q_NoNumber_n, w_k_q_NoText_NoBench, w_k_q_NoText_n, w_k_q_NoTable_NoBench, w_k_q_NoTable_n, w_k_q_NoBox_NoBench, w_k_q_NoBox_n, w_k_q_NoStock_NoBench, w_k_q_NoStock_n, w_k_q_NoWish_NoBench, w_k_q_NoWish_n, w_k_q_NoRow_NoBench, w_k_q_NoRow_n, w_k_q_Unknown_NoBench, w_k_q_Unknown_n, F_is_piece, B_is_piece, N_is_piece, h, l]
theorem np_p1 (w : Str) (d : D) (h : F_is_ratio [d] = .ret (.bl false) none) : F_is_piece [.tup [.str w, d]] = .ret (.bl false) none := by
  simp_arith [w_k_0, w_e_0_0, w_e_0_1, w_e_0_2, w_e_0_3, w_e_0_4, w_k_1, w_e_1_0, w_e_1_1, w_e_1_2, w_e_1_3, w_e_1_4, w_k_2, w_e_2_0, w_e_2_1, w_e_2_2, w_e_2_3, w_e_2_4, w_k_3, w_e_3_0, w_e_3_1, w_e_3_2, w_e_3_3, w_e_3_4, w_k_4, w_e_4_0, w_e_4_1, w_e_4_2, w_e_4_3, w_e_4_4, w_k_atn_NoBench, w_k_tx_BenchError_NoBench, w_k_q_NoBench_NoBench, w_k_q_NoBench_n, w_k_q_ValueError_NoBench, w_k_q_ValueError_n, w_k_q_NoNumber_NoBench, w_k_q_NoNumber_n, w_k_q_NoText_NoBench, w_k_q_NoText_n, w_k_q_NoTable_NoBench, w_k_q_NoTable_n, w_k_q_NoBox_NoBench, w_k_q_NoBox_n, w_k_q_NoStock_NoBench, w_k_q_NoStock_n, w_k_q_NoWish_NoBench, w_k_q_NoWish_n, w_k_q_NoRow_NoBench, w_k_q_NoRow_n, w_k_q_Unknown_NoBench, w_k_q_Unknown_n, F_is_piece, B_is_piece, N_is_piece, E_is_piece_1, h, List.drop_succ_cons, List.drop_zero, List.drop]
theorem np_p2 (w : Str) (d : D) (b : Rat) (h : F_is_ratio [d] = .ret (.bl false) none) : F_is_piece [.tup [.str w, d, qD b]] = .ret (.bl false) none := by
  simp_arith [w_k_0, w_e_0_0, w_e_0_1, w_e_0_2, w_e_0_3, w_e_0_4, w_k_1, w_e_1_0, w_e_1_1, w_e_1_2, w_e_1_3, w_e_1_4, w_k_2, w_e_2_0, w_e_2_1, w_e_2_2, w_e_2_3, w_e_2_4, w_k_3, w_e_3_0, w_e_3_1, w_e_3_2, w_e_3_3, w_e_3_4, w_k_4, w_e_4_0, w_e_4_1, w_e_4_2, w_e_4_3, w_e_4_4, w_k_atn_NoBench, w_k_tx_BenchError_NoBench, w_k_q_NoBench_NoBench, w_k_q_NoBench_n, w_k_q_ValueError_NoBench, w_k_q_ValueError_n, w_k_q_NoNumber_NoBench, w_k_q_NoNumber_n, w_k_q_NoText_NoBench, w_k_q_NoText_n, w_k_q_NoTable_NoBench, w_k_q_NoTable_n, w_k_q_NoBox_NoBench, w_k_q_NoBox_n, w_k_q_NoStock_NoBench, w_k_q_NoStock_n, w_k_q_NoWish_NoBench, w_k_q_NoWish_n, w_k_q_NoRow_NoBench, w_k_q_NoRow_n, w_k_q_Unknown_NoBench, w_k_q_Unknown_n, F_is_piece, B_is_piece, N_is_piece, E_is_piece_1, h, ratio_q, List.drop_succ_cons, List.drop_zero, List.drop]
theorem np_w1 (w : Str) (a : Rat) (so : PyData.strOk w = true) (h1 : (w == ("gap" : Str)) = false) (h2 : (w == ("glass" : Str)) = false) : F_is_piece [.tup [.str w, qD a]] = .ret (.bl false) none := by
  cases hs : (w == ("stop" : Str)) <;>
  simp_arith [w_k_0, w_e_0_0, w_e_0_1, w_e_0_2, w_e_0_3, w_e_0_4, w_k_1, w_e_1_0, w_e_1_1, w_e_1_2, w_e_1_3, w_e_1_4, w_k_2, w_e_2_0, w_e_2_1, w_e_2_2, w_e_2_3, w_e_2_4, w_k_3, w_e_3_0, w_e_3_1, w_e_3_2, w_e_3_3, w_e_3_4, w_k_4, w_e_4_0, w_e_4_1, w_e_4_2, w_e_4_3, w_e_4_4, w_k_atn_NoBench, w_k_tx_BenchError_NoBench, w_k_q_NoBench_NoBench, w_k_q_NoBench_n, w_k_q_ValueError_NoBench, w_k_q_ValueError_n, w_k_q_NoNumber_NoBench, w_k_q_NoNumber_n, w_k_q_NoText_NoBench, w_k_q_NoText_n, w_k_q_NoTable_NoBench, w_k_q_NoTable_n, w_k_q_NoBox_NoBench, w_k_q_NoBox_n, w_k_q_NoStock_NoBench, w_k_q_NoStock_n, w_k_q_NoWish_NoBench, w_k_q_NoWish_n, w_k_q_NoRow_NoBench, w_k_q_NoRow_n, w_k_q_Unknown_NoBench, w_k_q_Unknown_n, F_is_piece, B_is_piece, N_is_piece, E_is_piece_1, ratio_q, so, h1, h2, hs, List.drop_succ_cons, List.drop_zero, List.drop]
theorem np_w2 (w : Str) (a b : Rat) (so : PyData.strOk w = true) (h1 : (w == ("stop" : Str)) = false) : F_is_piece [.tup [.str w, qD a, qD b]] = .ret (.bl false) none := by
  simp_arith [w_k_0, w_e_0_0, w_e_0_1, w_e_0_2, w_e_0_3, w_e_0_4, w_k_1, w_e_1_0, w_e_1_1, w_e_1_2, w_e_1_3, w_e_1_4, w_k_2, w_e_2_0, w_e_2_1, w_e_2_2, w_e_2_3, w_e_2_4, w_k_3, w_e_3_0, w_e_3_1, w_e_3_2, w_e_3_3, w_e_3_4, w_k_4, w_e_4_0, w_e_4_1, w_e_4_2, w_e_4_3, w_e_4_4, w_k_atn_NoBench, w_k_tx_BenchError_NoBench, w_k_q_NoBench_NoBench, w_k_q_NoBench_n, w_k_q_ValueError_NoBench, w_k_q_ValueError_n, w_k_q_NoNumber_NoBench, w_k_q_NoNumber_n, w_k_q_NoText_NoBench, w_k_q_NoText_n, w_k_q_NoTable_NoBench, w_k_q_NoTable_n, w_k_q_NoBox_NoBench, w_k_q_NoBox_n, w_k_q_NoStock_NoBench, w_k_q_NoStock_n, w_k_q_NoWish_NoBench, w_k_q_NoWish_n, w_k_q_NoRow_NoBench, w_k_q_NoRow_n, w_k_q_Unknown_NoBench, w_k_q_Unknown_n, F_is_piece, B_is_piece, N_is_piece, E_is_piece_1, ratio_q, so, h1, List.drop_succ_cons, List.drop_zero, List.drop]
theorem np_3 (a b c : Rat) : F_is_piece [.tup [.str "stop", qD a, qD b, qD c]] = .ret (.bl false) none := by
  have al : allD [.lst [.bl true, .bl true, .bl true]] = some (.dat (.bl true)) := rfl
  simp_arith [w_k_0, w_e_0_0, w_e_0_1, w_e_0_2, w_e_0_3, w_e_0_4, w_k_1, w_e_1_0, w_e_1_1, w_e_1_2, w_e_1_3, w_e_1_4, w_k_2, w_e_2_0, w_e_2_1, w_e_2_2, w_e_2_3, w_e_2_4, w_k_3, w_e_3_0, w_e_3_1, w_e_3_2, w_e_3_3, w_e_3_4, w_k_4, w_e_4_0, w_e_4_1, w_e_4_2, w_e_4_3, w_e_4_4, w_k_atn_NoBench, w_k_tx_BenchError_NoBench, w_k_q_NoBench_NoBench, w_k_q_NoBench_n, w_k_q_ValueError_NoBench, w_k_q_ValueError_n, w_k_q_NoNumber_NoBench, w_k_q_NoNumber_n, w_k_q_NoText_NoBench, w_k_q_NoText_n, w_k_q_NoTable_NoBench, w_k_q_NoTable_n, w_k_q_NoBox_NoBench, w_k_q_NoBox_n, w_k_q_NoStock_NoBench, w_k_q_NoStock_n, w_k_q_NoWish_NoBench, w_k_q_NoWish_n, w_k_q_NoRow_NoBench, w_k_q_NoRow_n, w_k_q_Unknown_NoBench, w_k_q_Unknown_n, F_is_piece, B_is_piece, N_is_piece, E_is_piece_1, ratio_q, al, List.drop_succ_cons, List.drop_zero, List.drop]
theorem np_p3 (w : Str) (a : Rat) (x : D) (h : F_is_ratio [x] = .ret (.bl false) none) : F_is_piece [.tup [.str w, qD a, x]] = .ret (.bl false) none := by
  simp_arith [w_k_0, w_e_0_0, w_e_0_1, w_e_0_2, w_e_0_3, w_e_0_4, w_k_1, w_e_1_0, w_e_1_1, w_e_1_2, w_e_1_3, w_e_1_4, w_k_2, w_e_2_0, w_e_2_1, w_e_2_2, w_e_2_3, w_e_2_4, w_k_3, w_e_3_0, w_e_3_1, w_e_3_2, w_e_3_3, w_e_3_4, w_k_4, w_e_4_0, w_e_4_1, w_e_4_2, w_e_4_3, w_e_4_4, w_k_atn_NoBench, w_k_tx_BenchError_NoBench, w_k_q_NoBench_NoBench, w_k_q_NoBench_n, w_k_q_ValueError_NoBench, w_k_q_ValueError_n, w_k_q_NoNumber_NoBench, w_k_q_NoNumber_n, w_k_q_NoText_NoBench, w_k_q_NoText_n, w_k_q_NoTable_NoBench, w_k_q_NoTable_n, w_k_q_NoBox_NoBench, w_k_q_NoBox_n, w_k_q_NoStock_NoBench, w_k_q_NoStock_n, w_k_q_NoWish_NoBench, w_k_q_NoWish_n, w_k_q_NoRow_NoBench, w_k_q_NoRow_n, w_k_q_Unknown_NoBench, w_k_q_Unknown_n, F_is_piece, B_is_piece, N_is_piece, E_is_piece_1, h, ratio_q, List.drop_succ_cons, List.drop_zero, List.drop]
theorem np_p4 (w : Str) (a b : Rat) (x : D) (h : F_is_ratio [x] = .ret (.bl false) none) : F_is_piece [.tup [.str w, qD a, qD b, x]] = .ret (.bl false) none := by
  have al : allD [.lst [.bl true, .bl true, .bl false]] = some (.dat (.bl false)) := rfl
  simp_arith [w_k_0, w_e_0_0, w_e_0_1, w_e_0_2, w_e_0_3, w_e_0_4, w_k_1, w_e_1_0, w_e_1_1, w_e_1_2, w_e_1_3, w_e_1_4, w_k_2, w_e_2_0, w_e_2_1, w_e_2_2, w_e_2_3, w_e_2_4, w_k_3, w_e_3_0, w_e_3_1, w_e_3_2, w_e_3_3, w_e_3_4, w_k_4, w_e_4_0, w_e_4_1, w_e_4_2, w_e_4_3, w_e_4_4, w_k_atn_NoBench, w_k_tx_BenchError_NoBench, w_k_q_NoBench_NoBench, w_k_q_NoBench_n, w_k_q_ValueError_NoBench, w_k_q_ValueError_n, w_k_q_NoNumber_NoBench, w_k_q_NoNumber_n, w_k_q_NoText_NoBench, w_k_q_NoText_n, w_k_q_NoTable_NoBench, w_k_q_NoTable_n, w_k_q_NoBox_NoBench, w_k_q_NoBox_n, w_k_q_NoStock_NoBench, w_k_q_NoStock_n, w_k_q_NoWish_NoBench, w_k_q_NoWish_n, w_k_q_NoRow_NoBench, w_k_q_NoRow_n, w_k_q_Unknown_NoBench, w_k_q_Unknown_n, F_is_piece, B_is_piece, N_is_piece, E_is_piece_1, h, ratio_q, al, List.drop_succ_cons, List.drop_zero, List.drop]
theorem np_less (a b : Rat) (za : Sz 4000 a) (zb : Sz 4000 b) (h : b < a) : F_is_piece [.tup [.str "stop", qD a, qD b]] = .ret (.bl false) none := by
  have il := is_less_eq b a zb za
  rw [decide_eq_true h] at il
  simp_arith [w_k_0, w_e_0_0, w_e_0_1, w_e_0_2, w_e_0_3, w_e_0_4, w_k_1, w_e_1_0, w_e_1_1, w_e_1_2, w_e_1_3, w_e_1_4, w_k_2, w_e_2_0, w_e_2_1, w_e_2_2, w_e_2_3, w_e_2_4, w_k_3, w_e_3_0, w_e_3_1, w_e_3_2, w_e_3_3, w_e_3_4, w_k_4, w_e_4_0, w_e_4_1, w_e_4_2, w_e_4_3, w_e_4_4, w_k_atn_NoBench, w_k_tx_BenchError_NoBench, w_k_q_NoBench_NoBench, w_k_q_NoBench_n, w_k_q_ValueError_NoBench, w_k_q_ValueError_n, w_k_q_NoNumber_NoBench, w_k_q_NoNumber_n, w_k_q_NoText_NoBench, w_k_q_NoText_n, w_k_q_NoTable_NoBench, w_k_q_NoTable_n, w_k_q_NoBox_NoBench, w_k_q_NoBox_n, w_k_q_NoStock_NoBench, w_k_q_NoStock_n, w_k_q_NoWish_NoBench, w_k_q_NoWish_n, w_k_q_NoRow_NoBench, w_k_q_NoRow_n, w_k_q_Unknown_NoBench, w_k_q_Unknown_n, F_is_piece, B_is_piece, N_is_piece, E_is_piece_1, ratio_q, il, List.drop_succ_cons, List.drop_zero, List.drop]
theorem half_q : D.tup [.int 1, .int 2] = qD (1 / 2) := by
  have e : (1 / 2 : Rat).num = 1 ∧ (1 / 2 : Rat).den = 2 := by decide +kernel
  unfold qD
  rw [e.1, e.2]
  rfl
theorem np_stop : F_is_piece [.tup [.str "stop", qD 1, .tup [.int 1, .int 2]]] = .ret (.bl false) none := by
  rw [half_q]
  have e : (1 / 2 : Rat).num = 1 ∧ (1 / 2 : Rat).den = 2 := by decide +kernel
  refine np_less 1 (1 / 2) (Sz.one.le (by decide)) ⟨?_, ?_⟩ (by grind)
  · rw [e.1]; exact Nat.lt_of_lt_of_le (show (1 : Int).natAbs < 2 ^ 2 by decide) (Nat.pow_le_pow_right (by decide) (by decide))
  · rw [e.2]; exact Nat.lt_of_lt_of_le (show 2 < 2 ^ 2 by decide) (Nat.pow_le_pow_right (by decide) (by decide))
theorem rat_24 : F_is_ratio [.tup [.int 2, .int 4]] = .ret (.bl false) none := by rw [ratio_t]; rfl
def wr_gap (q : Rat) : List D := [.lst [.str "gap", qD q], .int 7, .non, .str "gap 1", .tup [.str "gap"], .tup [.str "gap", .int 3], qD q, .tup [.str "gap", qD q, .int 1], .tup [.str "lens", qD 1], .bl true, .tup [.str "stop", qD 1, .tup [.int 1, .int 2]], .tup [.str "gap", .tup [.int 2, .int 4]]]
theorem wn_gap (q : Rat) : ∀ d ∈ wr_gap q, F_is_piece [d] = .ret (.bl false) none := by
  intro d hd
  simp only [wr_gap, List.mem_cons, List.not_mem_nil, or_false] at hd
  rcases hd with rfl | rfl | rfl | rfl | rfl | rfl | rfl | rfl | rfl | rfl | rfl | rfl
  · exact np_tup _ rfl
  · exact np_tup _ rfl
  · exact np_tup _ rfl
  · exact np_tup _ rfl
  · exact np_1 _
  · exact np_p1 _ _ (rat_no _ rfl)
  · exact np_s _ _ [] (by simp) rfl
  · exact np_p3 _ _ _ (rat_no _ rfl)
  · exact np_w1 "lens" 1 (by decide +kernel) (by decide +kernel) (by decide +kernel)
  · exact np_tup _ rfl
  · exact np_stop
  · exact np_p1 _ _ rat_24
theorem wf_gap (q : Rat) : ∀ d ∈ wr_gap q, flt 63 d = true ∧ deq d d = true := by
  intro d hd
  simp only [wr_gap, List.mem_cons, List.not_mem_nil, or_false] at hd
  rcases hd with rfl | rfl | rfl | rfl | rfl | rfl | rfl | rfl | rfl | rfl | rfl | rfl <;> refine ⟨?_, ?_⟩ <;> simp_arith [w_k_0, w_e_0_0, w_e_0_1, w_e_0_2, w_e_0_3, w_e_0_4, w_k_1, w_e_1_0, w_e_1_1, w_e_1_2, w_e_1_3, w_e_1_4, w_k_2, w_e_2_0, w_e_2_1, w_e_2_2, w_e_2_3, w_e_2_4, w_k_3, w_e_3_0, w_e_3_1, w_e_3_2, w_e_3_3, w_e_3_4, w_k_4, w_e_4_0, w_e_4_1, w_e_4_2, w_e_4_3, w_e_4_4, w_k_atn_NoBench, w_k_tx_BenchError_NoBench, w_k_q_NoBench_NoBench, w_k_q_NoBench_n, w_k_q_ValueError_NoBench, w_k_q_ValueError_n, w_k_q_NoNumber_NoBench, w_k_q_NoNumber_n, w_k_q_NoText_NoBench, w_k_q_NoText_n, w_k_q_NoTable_NoBench, w_k_q_NoTable_n, w_k_q_NoBox_NoBench, w_k_q_NoBox_n, w_k_q_NoStock_NoBench, w_k_q_NoStock_n, w_k_q_NoWish_NoBench, w_k_q_NoWish_n, w_k_q_NoRow_NoBench, w_k_q_NoRow_n, w_k_q_Unknown_NoBench, w_k_q_Unknown_n, qD, deq_q]
theorem wx_gap (q : Rat) (c : Int) : ∃ d, F_ulaw_wrong [pD (.gap q), .int c] = .ret d none ∧ F_is_piece [d] = .ret (.bl false) none ∧ flt 63 d = true ∧ deq d d = true := by
  have i1 : (c % 12).toNat < (wr_gap q).length := by show _ < 12; omega
  have g1 : (wr_gap q)[(c % 12).toNat]? = some (wr_gap q)[(c % 12).toNat] := List.getElem?_eq_getElem i1
  have n1 := wn_gap q _ (List.getElem_mem i1)
  have n2 := wf_gap q _ (List.getElem_mem i1)
  have k1 : 0 ≤ c % 12 := by omega
  generalize (wr_gap q)[(c % 12).toNat] = d1 at *
  unfold wr_gap at g1
  refine ⟨d1, ?_, n1, n2⟩
  simp_arith [w_k_0, w_e_0_0, w_e_0_1, w_e_0_2, w_e_0_3, w_e_0_4, w_k_1, w_e_1_0, w_e_1_1, w_e_1_2, w_e_1_3, w_e_1_4, w_k_2, w_e_2_0, w_e_2_1, w_e_2_2, w_e_2_3, w_e_2_4, w_k_3, w_e_3_0, w_e_3_1, w_e_3_2, w_e_3_3, w_e_3_4, w_k_4, w_e_4_0, w_e_4_1, w_e_4_2, w_e_4_3, w_e_4_4, w_k_atn_NoBench, w_k_tx_BenchError_NoBench, w_k_q_NoBench_NoBench, w_k_q_NoBench_n, w_k_q_ValueError_NoBench, w_k_q_ValueError_n, w_k_q_NoNumber_NoBench, w_k_q_NoNumber_n, w_k_q_NoText_NoBench, w_k_q_NoText_n, w_k_q_NoTable_NoBench, w_k_q_NoTable_n, w_k_q_NoBox_NoBench, w_k_q_NoBox_n, w_k_q_NoStock_NoBench, w_k_q_NoStock_n, w_k_q_NoWish_NoBench, w_k_q_NoWish_n, w_k_q_NoRow_NoBench, w_k_q_NoRow_n, w_k_q_Unknown_NoBench, w_k_q_Unknown_n, pD, F_ulaw_wrong, B_ulaw_wrong, N_ulaw_wrong, g1, k1]
def wr_glass (q : Rat) : List D := [.lst [.str "glass", qD q], .int 7, .non, .str "gap 1", .tup [.str "glass"], .tup [.str "glass", .int 3], qD q, .tup [.str "glass", qD q, .int 1], .tup [.str "lens", qD 1], .bl true, .tup [.str "stop", qD 1, .tup [.int 1, .int 2]], .tup [.str "gap", .tup [.int 2, .int 4]]]
theorem wn_glass (q : Rat) : ∀ d ∈ wr_glass q, F_is_piece [d] = .ret (.bl false) none := by
  intro d hd
  simp only [wr_glass, List.mem_cons, List.not_mem_nil, or_false] at hd
  rcases hd with rfl | rfl | rfl | rfl | rfl | rfl | rfl | rfl | rfl | rfl | rfl | rfl
  · exact np_tup _ rfl
  · exact np_tup _ rfl
  · exact np_tup _ rfl
  · exact np_tup _ rfl
  · exact np_1 _
  · exact np_p1 _ _ (rat_no _ rfl)
  · exact np_s _ _ [] (by simp) rfl
  · exact np_p3 _ _ _ (rat_no _ rfl)
  · exact np_w1 "lens" 1 (by decide +kernel) (by decide +kernel) (by decide +kernel)
  · exact np_tup _ rfl
  · exact np_stop
  · exact np_p1 _ _ rat_24
theorem wf_glass (q : Rat) : ∀ d ∈ wr_glass q, flt 63 d = true ∧ deq d d = true := by
  intro d hd
  simp only [wr_glass, List.mem_cons, List.not_mem_nil, or_false] at hd
  rcases hd with rfl | rfl | rfl | rfl | rfl | rfl | rfl | rfl | rfl | rfl | rfl | rfl <;> refine ⟨?_, ?_⟩ <;> simp_arith [w_k_0, w_e_0_0, w_e_0_1, w_e_0_2, w_e_0_3, w_e_0_4, w_k_1, w_e_1_0, w_e_1_1, w_e_1_2, w_e_1_3, w_e_1_4, w_k_2, w_e_2_0, w_e_2_1, w_e_2_2, w_e_2_3, w_e_2_4, w_k_3, w_e_3_0, w_e_3_1, w_e_3_2, w_e_3_3, w_e_3_4, w_k_4, w_e_4_0, w_e_4_1, w_e_4_2, w_e_4_3, w_e_4_4, w_k_atn_NoBench, w_k_tx_BenchError_NoBench, w_k_q_NoBench_NoBench, w_k_q_NoBench_n, w_k_q_ValueError_NoBench, w_k_q_ValueError_n, w_k_q_NoNumber_NoBench, w_k_q_NoNumber_n, w_k_q_NoText_NoBench, w_k_q_NoText_n, w_k_q_NoTable_NoBench, w_k_q_NoTable_n, w_k_q_NoBox_NoBench, w_k_q_NoBox_n, w_k_q_NoStock_NoBench, w_k_q_NoStock_n, w_k_q_NoWish_NoBench, w_k_q_NoWish_n, w_k_q_NoRow_NoBench, w_k_q_NoRow_n, w_k_q_Unknown_NoBench, w_k_q_Unknown_n, qD, deq_q]
theorem wx_glass (q : Rat) (c : Int) : ∃ d, F_ulaw_wrong [pD (.glass q), .int c] = .ret d none ∧ F_is_piece [d] = .ret (.bl false) none ∧ flt 63 d = true ∧ deq d d = true := by
  have i1 : (c % 12).toNat < (wr_glass q).length := by show _ < 12; omega
  have g1 : (wr_glass q)[(c % 12).toNat]? = some (wr_glass q)[(c % 12).toNat] := List.getElem?_eq_getElem i1
  have n1 := wn_glass q _ (List.getElem_mem i1)
  have n2 := wf_glass q _ (List.getElem_mem i1)
  have k1 : 0 ≤ c % 12 := by omega
  generalize (wr_glass q)[(c % 12).toNat] = d1 at *
  unfold wr_glass at g1
  refine ⟨d1, ?_, n1, n2⟩
  simp_arith [w_k_0, w_e_0_0, w_e_0_1, w_e_0_2, w_e_0_3, w_e_0_4, w_k_1, w_e_1_0, w_e_1_1, w_e_1_2, w_e_1_3, w_e_1_4, w_k_2, w_e_2_0, w_e_2_1, w_e_2_2, w_e_2_3, w_e_2_4, w_k_3, w_e_3_0, w_e_3_1, w_e_3_2, w_e_3_3, w_e_3_4, w_k_4, w_e_4_0, w_e_4_1, w_e_4_2, w_e_4_3, w_e_4_4, w_k_atn_NoBench, w_k_tx_BenchError_NoBench, w_k_q_NoBench_NoBench, w_k_q_NoBench_n, w_k_q_ValueError_NoBench, w_k_q_ValueError_n, w_k_q_NoNumber_NoBench, w_k_q_NoNumber_n, w_k_q_NoText_NoBench, w_k_q_NoText_n, w_k_q_NoTable_NoBench, w_k_q_NoTable_n, w_k_q_NoBox_NoBench, w_k_q_NoBox_n, w_k_q_NoStock_NoBench, w_k_q_NoStock_n, w_k_q_NoWish_NoBench, w_k_q_NoWish_n, w_k_q_NoRow_NoBench, w_k_q_NoRow_n, w_k_q_Unknown_NoBench, w_k_q_Unknown_n, pD, F_ulaw_wrong, B_ulaw_wrong, N_ulaw_wrong, g1, k1]
def wr_stop (q r : Rat) : List D := [.lst [.str "stop", qD q, qD r], .int 7, .non, .str "gap 1", .tup [.str "stop"], .tup [.str "stop", .int 3], qD q, .tup [.str "stop", qD q, qD r, .int 1], .tup [.str "lens", qD 1], .bl true, .tup [.str "stop", qD 1, .tup [.int 1, .int 2]], .tup [.str "gap", .tup [.int 2, .int 4]]]
theorem wn_stop (q r : Rat) : ∀ d ∈ wr_stop q r, F_is_piece [d] = .ret (.bl false) none := by
  intro d hd
  simp only [wr_stop, List.mem_cons, List.not_mem_nil, or_false] at hd
  rcases hd with rfl | rfl | rfl | rfl | rfl | rfl | rfl | rfl | rfl | rfl | rfl | rfl
  · exact np_tup _ rfl
  · exact np_tup _ rfl
  · exact np_tup _ rfl
  · exact np_tup _ rfl
  · exact np_1 _
  · exact np_p1 _ _ (rat_no _ rfl)
  · exact np_s _ _ [] (by simp) rfl
  · exact np_p4 _ _ _ _ (rat_no _ rfl)
  · exact np_w1 "lens" 1 (by decide +kernel) (by decide +kernel) (by decide +kernel)
  · exact np_tup _ rfl
  · exact np_stop
  · exact np_p1 _ _ rat_24
theorem wf_stop (q r : Rat) : ∀ d ∈ wr_stop q r, flt 63 d = true ∧ deq d d = true := by
  intro d hd
  simp only [wr_stop, List.mem_cons, List.not_mem_nil, or_false] at hd
  rcases hd with rfl | rfl | rfl | rfl | rfl | rfl | rfl | rfl | rfl | rfl | rfl | rfl <;> refine ⟨?_, ?_⟩ <;> simp_arith [w_k_0, w_e_0_0, w_e_0_1, w_e_0_2, w_e_0_3, w_e_0_4, w_k_1, w_e_1_0, w_e_1_1, w_e_1_2, w_e_1_3, w_e_1_4, w_k_2, w_e_2_0, w_e_2_1, w_e_2_2, w_e_2_3, w_e_2_4, w_k_3, w_e_3_0, w_e_3_1, w_e_3_2, w_e_3_3, w_e_3_4, w_k_4, w_e_4_0, w_e_4_1, w_e_4_2, w_e_4_3, w_e_4_4, w_k_atn_NoBench, w_k_tx_BenchError_NoBench, w_k_q_NoBench_NoBench, w_k_q_NoBench_n, w_k_q_ValueError_NoBench, w_k_q_ValueError_n, w_k_q_NoNumber_NoBench, w_k_q_NoNumber_n, w_k_q_NoText_NoBench, w_k_q_NoText_n, w_k_q_NoTable_NoBench, w_k_q_NoTable_n, w_k_q_NoBox_NoBench, w_k_q_NoBox_n, w_k_q_NoStock_NoBench, w_k_q_NoStock_n, w_k_q_NoWish_NoBench, w_k_q_NoWish_n, w_k_q_NoRow_NoBench, w_k_q_NoRow_n, w_k_q_Unknown_NoBench, w_k_q_Unknown_n, qD, deq_q]
theorem wx_stop (q r : Rat) (c : Int) : ∃ d, F_ulaw_wrong [pD (.stop q r), .int c] = .ret d none ∧ F_is_piece [d] = .ret (.bl false) none ∧ flt 63 d = true ∧ deq d d = true := by
  have i1 : (c % 12).toNat < (wr_stop q r).length := by show _ < 12; omega
  have g1 : (wr_stop q r)[(c % 12).toNat]? = some (wr_stop q r)[(c % 12).toNat] := List.getElem?_eq_getElem i1
  have n1 := wn_stop q r _ (List.getElem_mem i1)
  have n2 := wf_stop q r _ (List.getElem_mem i1)
  have k1 : 0 ≤ c % 12 := by omega
  generalize (wr_stop q r)[(c % 12).toNat] = d1 at *
  unfold wr_stop at g1
  refine ⟨d1, ?_, n1, n2⟩
  simp_arith [w_k_0, w_e_0_0, w_e_0_1, w_e_0_2, w_e_0_3, w_e_0_4, w_k_1, w_e_1_0, w_e_1_1, w_e_1_2, w_e_1_3, w_e_1_4, w_k_2, w_e_2_0, w_e_2_1, w_e_2_2, w_e_2_3, w_e_2_4, w_k_3, w_e_3_0, w_e_3_1, w_e_3_2, w_e_3_3, w_e_3_4, w_k_4, w_e_4_0, w_e_4_1, w_e_4_2, w_e_4_3, w_e_4_4, w_k_atn_NoBench, w_k_tx_BenchError_NoBench, w_k_q_NoBench_NoBench, w_k_q_NoBench_n, w_k_q_ValueError_NoBench, w_k_q_ValueError_n, w_k_q_NoNumber_NoBench, w_k_q_NoNumber_n, w_k_q_NoText_NoBench, w_k_q_NoText_n, w_k_q_NoTable_NoBench, w_k_q_NoTable_n, w_k_q_NoBox_NoBench, w_k_q_NoBox_n, w_k_q_NoStock_NoBench, w_k_q_NoStock_n, w_k_q_NoWish_NoBench, w_k_q_NoWish_n, w_k_q_NoRow_NoBench, w_k_q_NoRow_n, w_k_q_Unknown_NoBench, w_k_q_Unknown_n, pD, F_ulaw_wrong, B_ulaw_wrong, N_ulaw_wrong, g1, k1]
theorem wrong_ex (p : Pc) (c : Int) : ∃ d, F_ulaw_wrong [pD p, .int c] = .ret d none ∧ F_is_piece [d] = .ret (.bl false) none ∧ flt 63 d = true ∧ deq d d = true := by
  cases p with
  | gap q => exact wx_gap q c
  | glass q => exact wx_glass q c
  | stop a b => exact wx_stop a b c
theorem refused_non (d : D) (h : F_look_at [d] = .ex (noB .non) none) : F_ulaw_refused [d, .non] = .ret (.bl true) none := by
  have rp : DL.rp 8 (D.bl false) = [.bl false, .bl false, .bl false, .bl false, .bl false, .bl false, .bl false, .bl false] := rfl
  simp_arith [w_k_0, w_e_0_0, w_e_0_1, w_e_0_2, w_e_0_3, w_e_0_4, w_k_1, w_e_1_0, w_e_1_1, w_e_1_2, w_e_1_3, w_e_1_4, w_k_2, w_e_2_0, w_e_2_1, w_e_2_2, w_e_2_3, w_e_2_4, w_k_3, w_e_3_0, w_e_3_1, w_e_3_2, w_e_3_3, w_e_3_4, w_k_4, w_e_4_0, w_e_4_1, w_e_4_2, w_e_4_3, w_e_4_4, w_k_atn_NoBench, w_k_tx_BenchError_NoBench, w_k_q_NoBench_NoBench, w_k_q_NoBench_n, w_k_q_ValueError_NoBench, w_k_q_ValueError_n, w_k_q_NoNumber_NoBench, w_k_q_NoNumber_n, w_k_q_NoText_NoBench, w_k_q_NoText_n, w_k_q_NoTable_NoBench, w_k_q_NoTable_n, w_k_q_NoBox_NoBench, w_k_q_NoBox_n, w_k_q_NoStock_NoBench, w_k_q_NoStock_n, w_k_q_NoWish_NoBench, w_k_q_NoWish_n, w_k_q_NoRow_NoBench, w_k_q_NoRow_n, w_k_q_Unknown_NoBench, w_k_q_Unknown_n, F_ulaw_refused, B_ulaw_refused, N_ulaw_refused, H_ulaw_refused_1, F_ulaw_kinds, B_ulaw_kinds, N_ulaw_kinds, h, rp]
theorem lw_int (k : Int) : F_ulaw_whole [.int k] = .ret (.bl true) none := by simp_arith [w_k_0, w_e_0_0, w_e_0_1, w_e_0_2, w_e_0_3, w_e_0_4, w_k_1, w_e_1_0, w_e_1_1, w_e_1_2, w_e_1_3, w_e_1_4, w_k_2, w_e_2_0, w_e_2_1, w_e_2_2, w_e_2_3, w_e_2_4, w_k_3, w_e_3_0, w_e_3_1, w_e_3_2, w_e_3_3, w_e_3_4, w_k_4, w_e_4_0, w_e_4_1, w_e_4_2, w_e_4_3, w_e_4_4, w_k_atn_NoBench, w_k_tx_BenchError_NoBench, w_k_q_NoBench_NoBench, w_k_q_NoBench_n, w_k_q_ValueError_NoBench, w_k_q_ValueError_n, w_k_q_NoNumber_NoBench, w_k_q_NoNumber_n, w_k_q_NoText_NoBench, w_k_q_NoText_n, w_k_q_NoTable_NoBench, w_k_q_NoTable_n, w_k_q_NoBox_NoBench, w_k_q_NoBox_n, w_k_q_NoStock_NoBench, w_k_q_NoStock_n, w_k_q_NoWish_NoBench, w_k_q_NoWish_n, w_k_q_NoRow_NoBench, w_k_q_NoRow_n, w_k_q_Unknown_NoBench, w_k_q_Unknown_n, F_ulaw_whole, B_ulaw_whole, N_ulaw_whole]
theorem refused_at (d : D) (k : Nat) (h : F_look_at [d] = .ex (noB (.int k)) none) : F_ulaw_refused [d, .int k] = .ret (.bl true) none := by
  have rp : DL.rp 8 (D.bl false) = [.bl false, .bl false, .bl false, .bl false, .bl false, .bl false, .bl false, .bl false] := rfl
  have lw := lw_int k
  generalize ((k : Nat) : Int) = kk at *
  simp_arith [w_k_0, w_e_0_0, w_e_0_1, w_e_0_2, w_e_0_3, w_e_0_4, w_k_1, w_e_1_0, w_e_1_1, w_e_1_2, w_e_1_3, w_e_1_4, w_k_2, w_e_2_0, w_e_2_1, w_e_2_2, w_e_2_3, w_e_2_4, w_k_3, w_e_3_0, w_e_3_1, w_e_3_2, w_e_3_3, w_e_3_4, w_k_4, w_e_4_0, w_e_4_1, w_e_4_2, w_e_4_3, w_e_4_4, w_k_atn_NoBench, w_k_tx_BenchError_NoBench, w_k_q_NoBench_NoBench, w_k_q_NoBench_n, w_k_q_ValueError_NoBench, w_k_q_ValueError_n, w_k_q_NoNumber_NoBench, w_k_q_NoNumber_n, w_k_q_NoText_NoBench, w_k_q_NoText_n, w_k_q_NoTable_NoBench, w_k_q_NoTable_n, w_k_q_NoBox_NoBench, w_k_q_NoBox_n, w_k_q_NoStock_NoBench, w_k_q_NoStock_n, w_k_q_NoWish_NoBench, w_k_q_NoWish_n, w_k_q_NoRow_NoBench, w_k_q_NoRow_n, w_k_q_Unknown_NoBench, w_k_q_Unknown_n, F_ulaw_refused, B_ulaw_refused, N_ulaw_refused, H_ulaw_refused_1, F_ulaw_kinds, B_ulaw_kinds, N_ulaw_kinds, h, rp, lw]
theorem pieces_run (far : Bool) (c0 c3 c4 c5 c6 c7 c8 c9 c10 c11 : Cell) : ∀ (m k : Nat) (s : D) (ps : List Pc), okD s → (∀ p ∈ ps, okPc 4000 p) →
    ∃ (s' : D) (qs : List Pc), compR (tgN 12) tTrue E_law_1 [12] (rngL k m) (ps.map pD) [c0, .own s, .val (.bl far), c3, c4, c5, c6, c7, c8, c9, c10, c11, .no] = .ok (qs.map pD) [c0, .own s', .val (.bl far), c3, c4, c5, c6, c7, c8, c9, c10, c11, .no] ∧ okD s' ∧ qs.length = ps.length + m ∧ ∀ p ∈ qs, okPc 4000 p
  | 0, k, s, ps, hs, hp => ⟨s, ps, rfl, hs, rfl, hp⟩
  | m + 1, k, s, ps, hs, hp => by
    obtain ⟨p, s1, h1, fp, o1⟩ := piece_ex s far hs
    have okp : okPc 4000 p := PcW.ok' (w := parW far) (by cases far <;> decide) fp
    have t : turn (tgN 12) tTrue E_law_1 [12] (.int (k : Int)) [c0, .own s, .val (.bl far), c3, c4, c5, c6, c7, c8, c9, c10, c11, .no] = .ok (some (pD p)) [c0, .own s1, .val (.bl far), c3, c4, c5, c6, c7, c8, c9, c10, c11, .no] := by
      have nl : nolst (pD p) = true := by cases p <;> rfl
      generalize pD p = x at *
      simp_arith [turn, E_law_1, h1, nl]
    obtain ⟨s2, qs, r, o2, l2, f2⟩ := pieces_run far c0 c3 c4 c5 c6 c7 c8 c9 c10 c11 m (k + 1) s1 (ps ++ [p]) o1 (fun q hq => by
      rcases List.mem_append.mp hq with h | h
      · exact hp q h
      · rw [List.mem_singleton.mp h]; exact okp)
    refine ⟨s2, qs, ?_, o2, by rw [l2, List.length_append]; simp; omega, f2⟩
    rw [rngL_succ, compR_cons t]
    rw [List.map_append, List.map_cons, List.map_nil] at r
    exact r
def things (q m : List D) (m0 : D) : List D := [.tup q, .dct [] [], .str "gap 1", .non, .int 5, .bl true, .tup [], .lst (m ++ [m0]), .lst (m ++ [.non]), .lst (.non :: m)]
theorem things_no (q m : List D) (m0 : D) (hm : m.length = 60) : ∀ d ∈ things q m m0, F_look_at [d] = .ex (noB .non) none := by
  intro d hd
  simp only [things, List.mem_cons, List.not_mem_nil, or_false] at hd
  rcases hd with rfl | rfl | rfl | rfl | rfl | rfl | rfl | rfl | rfl | rfl
  · exact look_at_nolist _ rfl
  · exact look_at_nolist _ rfl
  · exact look_at_nolist _ rfl
  · exact look_at_nolist _ rfl
  · exact look_at_nolist _ rfl
  · exact look_at_nolist _ rfl
  · exact look_at_nolist _ rfl
  · exact look_at_long _ (by simp; omega) (by simp; omega)
  · exact look_at_long _ (by simp; omega) (by simp; omega)
  · exact look_at_long _ (by simp; omega) (by simp; omega)
theorem flat_pcs (ps : List Pc) : (ps.map pD).all (flt 63) = true ∧ deqs (ps.map pD) (ps.map pD) = true := by
  induction ps with
  | nil => exact ⟨rfl, q_nil⟩
  | cons p ps ih =>
    have f : flt 63 (pD p) = true := by cases p <;> simp_arith [w_k_0, w_e_0_0, w_e_0_1, w_e_0_2, w_e_0_3, w_e_0_4, w_k_1, w_e_1_0, w_e_1_1, w_e_1_2, w_e_1_3, w_e_1_4, w_k_2, w_e_2_0, w_e_2_1, w_e_2_2, w_e_2_3, w_e_2_4, w_k_3, w_e_3_0, w_e_3_1, w_e_3_2, w_e_3_3, w_e_3_4, w_k_4, w_e_4_0, w_e_4_1, w_e_4_2, w_e_4_3, w_e_4_4, w_k_atn_NoBench, w_k_tx_BenchError_NoBench, w_k_q_NoBench_NoBench, w_k_q_NoBench_n, w_k_q_ValueError_NoBench, w_k_q_ValueError_n, w_k_q_NoNumber_NoBench, w_k_q_NoNumber_n, w_k_q_NoText_NoBench, w_k_q_NoText_n, w_k_q_NoTable_NoBench, w_k_q_NoTable_n, w_k_q_NoBox_NoBench, w_k_q_NoBox_n, w_k_q_NoStock_NoBench, w_k_q_NoStock_n, w_k_q_NoWish_NoBench, w_k_q_NoWish_n, w_k_q_NoRow_NoBench, w_k_q_NoRow_n, w_k_q_Unknown_NoBench, w_k_q_Unknown_n, pD]
    have g : deq (pD p) (pD p) = true := by cases p <;> simp_arith [w_k_0, w_e_0_0, w_e_0_1, w_e_0_2, w_e_0_3, w_e_0_4, w_k_1, w_e_1_0, w_e_1_1, w_e_1_2, w_e_1_3, w_e_1_4, w_k_2, w_e_2_0, w_e_2_1, w_e_2_2, w_e_2_3, w_e_2_4, w_k_3, w_e_3_0, w_e_3_1, w_e_3_2, w_e_3_3, w_e_3_4, w_k_4, w_e_4_0, w_e_4_1, w_e_4_2, w_e_4_3, w_e_4_4, w_k_atn_NoBench, w_k_tx_BenchError_NoBench, w_k_q_NoBench_NoBench, w_k_q_NoBench_n, w_k_q_ValueError_NoBench, w_k_q_ValueError_n, w_k_q_NoNumber_NoBench, w_k_q_NoNumber_n, w_k_q_NoText_NoBench, w_k_q_NoText_n, w_k_q_NoTable_NoBench, w_k_q_NoTable_n, w_k_q_NoBox_NoBench, w_k_q_NoBox_n, w_k_q_NoStock_NoBench, w_k_q_NoStock_n, w_k_q_NoWish_NoBench, w_k_q_NoWish_n, w_k_q_NoRow_NoBench, w_k_q_NoRow_n, w_k_q_Unknown_NoBench, w_k_q_Unknown_n, pD]
    rw [List.map_cons, List.all_cons, q_cons, f, g, ih.1, ih.2]
    exact ⟨rfl, rfl⟩
theorem deqs_app : ∀ a b : List D, deqs a a = true → deqs b b = true → deqs (a ++ b) (a ++ b) = true
  | [], b, _, h => h
  | x :: a, b, h, h2 => by
    rw [q_cons, Bool.and_eq_true] at h
    rw [List.cons_append, q_cons, h.1, deqs_app a b h.2 h2]
    rfl
theorem flat_rp (n : Nat) : (DL.rp n D.non).all (flt 63) = true ∧ deqs (DL.rp n D.non) (DL.rp n D.non) = true := by
  induction n with
  | zero => exact ⟨rfl, q_nil⟩
  | succ n ih =>
    have e : DL.rp (n + 1) D.non = D.non :: DL.rp n D.non := rfl
    rw [e, List.all_cons, q_cons, ih.1, ih.2]
    exact ⟨rfl, rfl⟩
theorem turn09 (far : Bool) (c : Int) (s : D) (many : Cell) (qs ms : List Pc) (hq : qs.length ≤ 60) (hm : ms.length = 60) (okq : ∀ p ∈ qs, okPc 4000 p) (c0 c7 c8 c9 c10 c11 : Cell) :
    ∃ d7 d8 d9 d10 d11, L_law_3 [c0, .own s, .val (.bl far), many, .own (.lst (qs.map pD)), .own (.lst (ms.map pD)), .val (.int c), c7, c8, c9, c10, c11, .no] =
      .nx [c0, .own s, .val (.bl far), many, .own (.lst (qs.map pD)), .own (.lst (ms.map pD)), .val (.int c), d7, d8, d9, d10, d11, .no] := by
  obtain ⟨m0, ms', rfl⟩ : ∃ m0 ms', ms = m0 :: ms' := by cases ms with | nil => simp at hm | cons a b => exact ⟨a, b, rfl⟩
  obtain ⟨nb, hnb, nb0⟩ : ∃ nb, c * 69621 % 2147483647 / 8 = nb ∧ 0 ≤ nb := ⟨_, rfl, by omega⟩
  have ix0 : ixD (.lst ((m0 :: ms').map pD)) (.int 0) = some (.dat (pD m0)) := ix_pcs (m0 :: ms') (k := 0) rfl
  have lm : ((m0 :: ms').map pD).length = 60 := by rw [List.length_map]; exact hm
  have i1 : (nb % 10).toNat < (things (qs.map pD) ((m0 :: ms').map pD) (pD m0)).length := by show _ < 10; omega
  have g1 : (things (qs.map pD) ((m0 :: ms').map pD) (pD m0))[(nb % 10).toNat]? = some _ := List.getElem?_eq_getElem i1
  have n1 := refused_non _ (things_no (qs.map pD) ((m0 :: ms').map pD) (pD m0) lm _ (List.getElem_mem i1))
  generalize (things (qs.map pD) ((m0 :: ms').map pD) (pD m0))[(nb % 10).toNat] = x at *
  unfold things at g1
  have k1 : 0 ≤ nb % 10 := by omega
  have la := look_at_eq qs hq okq
  have fl := flat_pcs qs
  have lq : (qs.map pD).length = qs.length := List.length_map _
  have mroom : ((m0 :: ms').map pD).length + 1 ≤ 1000000 := by omega
  have mroom2 : 1 + ((m0 :: ms').map pD).length ≤ 1000000 := by omega
  generalize (m0 :: ms').map pD = M at *
  generalize pD m0 = md at *
  by_cases q0 : qs = []
  · subst q0
    rw [List.map_nil] at *
    refine' ⟨_, _, _, _, _, ?h⟩
    case h =>
      simp_arith [w_k_0, w_e_0_0, w_e_0_1, w_e_0_2, w_e_0_3, w_e_0_4, w_k_1, w_e_1_0, w_e_1_1, w_e_1_2, w_e_1_3, w_e_1_4, w_k_2, w_e_2_0, w_e_2_1, w_e_2_2, w_e_2_3, w_e_2_4, w_k_3, w_e_3_0, w_e_3_1, w_e_3_2, w_e_3_3, w_e_3_4, w_k_4, w_e_4_0, w_e_4_1, w_e_4_2, w_e_4_3, w_e_4_4, w_k_atn_NoBench, w_k_tx_BenchError_NoBench, w_k_q_NoBench_NoBench, w_k_q_NoBench_n, w_k_q_ValueError_NoBench, w_k_q_ValueError_n, w_k_q_NoNumber_NoBench, w_k_q_NoNumber_n, w_k_q_NoText_NoBench, w_k_q_NoText_n, w_k_q_NoTable_NoBench, w_k_q_NoTable_n, w_k_q_NoBox_NoBench, w_k_q_NoBox_n, w_k_q_NoStock_NoBench, w_k_q_NoStock_n, w_k_q_NoWish_NoBench, w_k_q_NoWish_n, w_k_q_NoRow_NoBench, w_k_q_NoRow_n, w_k_q_Unknown_NoBench, w_k_q_Unknown_n, L_law_3, hnb, ix0, mroom, mroom2, g1, k1, n1, la]
      exact rfl
  have n0 : 0 < qs.length := List.length_pos_iff.mpr q0
  obtain ⟨a, ha⟩ := Int.eq_ofNat_of_zero_le (Int.emod_nonneg (nb / 10) (show (qs.length : Int) ≠ 0 by omega))
  have an : a < qs.length := by
    have := Int.emod_lt_of_pos (nb / 10) (show (0 : Int) < (qs.length : Int) by omega)
    omega
  obtain ⟨p, hp⟩ : ∃ p, qs[a]? = some p := ⟨_, List.getElem?_eq_getElem an⟩
  have ixa := ix_pcs qs hp
  obtain ⟨d, hw, dn, df, dd⟩ := wrong_ex p (nb / 7)
  have ne : deqs (qs.map pD) [] = false := by
    cases qs with
    | nil => exact (q0 rfl).elim
    | cons p ps => rw [List.map_cons]; rfl
  have ct : cutA (qs.map pD) none (some (a : Int)) = (qs.take a).map pD := by rw [c_to, List.map_take]
  have cd : cutA (qs.map pD) (some ((a : Int) + 1)) none = (qs.drop (a + 1)).map pD := by rw [show (a : Int) + 1 = ((a + 1 : Nat) : Int) by omega, c_from, List.map_drop]
  have ft := flat_pcs (qs.take a)
  have fd := flat_pcs (qs.drop (a + 1))
  have lt : ((qs.take a).map pD).length = a := by rw [List.length_map, List.length_take]; omega
  have ld : ((qs.drop (a + 1)).map pD).length = qs.length - (a + 1) := by rw [List.length_map, List.length_drop]
  have okt : ∀ p ∈ qs.take a, okPc 4000 p := fun p h => okq p (List.mem_of_mem_take h)
  have lta : (qs.take a).length = a := by rw [List.length_take]; omega
  have bad : ∀ rest : List D, rest.length = qs.length - (a + 1) → F_ulaw_refused [.lst ((qs.take a).map pD ++ [d] ++ rest), .int (a : Int)] = .ret (.bl true) none := fun rest hr => by
    have := look_at_bad (qs.take a) d rest okt dn (by rw [List.length_append, lt, List.length_cons, hr]; omega)
    rw [lta] at this
    rw [List.append_assoc]
    exact refused_at _ a this
  have same : ∀ rest : List D, rest.all (flt 63) = true → deqs rest rest = true → ((qs.take a).map pD ++ [d] ++ rest).all (flt 63) = true ∧ deqs ((qs.take a).map pD ++ [d] ++ rest) ((qs.take a).map pD ++ [d] ++ rest) = true := fun rest h1 h2 => by
    have e : deqs [d] [d] = true := by rw [q_cons, q_nil, dd]; rfl
    refine ⟨?_, deqs_app _ _ (deqs_app _ _ ft.2 e) h2⟩
    rw [List.all_append, List.all_append, ft.1, h1, List.all_cons, df]
    rfl
  have b1 := bad _ ld
  have b2 := bad (DL.rp (qs.length - (a + 1)) .non) (rp_len _ _)
  have s1 := same _ fd.1 fd.2
  have s2 := same _ (flat_rp (qs.length - (a + 1))).1 (flat_rp (qs.length - (a + 1))).2
  have cw : cutA ((qs.take a).map pD ++ [d] ++ (qs.drop (a + 1)).map pD) (some ((a : Int) + 1)) none = (qs.drop (a + 1)).map pD := by
    rw [show (a : Int) + 1 = ((a + 1 : Nat) : Int) by omega, c_from, List.drop_append_of_le_length (by rw [List.length_append, lt]; simp), List.drop_of_length_le (by rw [List.length_append, lt]; simp), List.nil_append]
  have tw : ((qs.take a).map pD ++ [d] ++ (qs.drop (a + 1)).map pD).take (a + 1) = (qs.take a).map pD ++ [d] := by
    rw [List.take_append_of_le_length (by rw [List.length_append, lt]; simp), List.take_of_length_le (by rw [List.length_append, lt]; simp)]
  generalize qs.map pD = Q at *
  generalize (qs.take a).map pD = T at *
  generalize (qs.drop (a + 1)).map pD = R at *
  generalize pD p = pp at *
  have rpl : (DL.rp (qs.length - (a + 1)) D.non).length = qs.length - (a + 1) := rp_len _ _
  have tz : ((a : Int) + 1).toNat = a + 1 := by omega
  have lr : (R.length : Int).toNat = qs.length - (a + 1) := by omega
  have room1 : T.length + 1 ≤ 1000000 := by omega
  have room2 : T.length + 1 + R.length ≤ 1000000 := by omega
  have room3 : (T ++ [d]).length + R.length ≤ 1000000 := by rw [List.length_append]; simp; omega
  have lQ : (Q.length : Int) = (qs.length : Int) := by omega
  have wl : (T ++ [d] ++ R).length = qs.length := by rw [List.length_append, List.length_append]; simp; omega
  have hsl : 0 ≤ (a : Int) + 1 ∧ (a : Int) + 1 ≤ ((T ++ [d] ++ R).length : Int) ∧ (T ++ [d] ++ R).length + (DL.rp (qs.length - (a + 1)) D.non).length ≤ 1000000 := by rw [wl, rpl]; omega
  have dw : (T ++ [d] ++ R).drop (a + 1) = R := by rw [List.drop_append_of_le_length (by rw [List.length_append, lt]; simp), List.drop_of_length_le (by rw [List.length_append, lt]; simp), List.nil_append]
  obtain ⟨W, hW⟩ : ∃ W, T ++ [d] ++ R = W := ⟨_, rfl⟩
  rw [hW] at b1 s1 cw tw wl hsl dw
  by_cases od : nb / 3 % 2 = 1
  · refine' ⟨_, _, _, _, _, ?h⟩
    case h =>
      simp_arith [w_k_0, w_e_0_0, w_e_0_1, w_e_0_2, w_e_0_3, w_e_0_4, w_k_1, w_e_1_0, w_e_1_1, w_e_1_2, w_e_1_3, w_e_1_4, w_k_2, w_e_2_0, w_e_2_1, w_e_2_2, w_e_2_3, w_e_2_4, w_k_3, w_e_3_0, w_e_3_1, w_e_3_2, w_e_3_3, w_e_3_4, w_k_4, w_e_4_0, w_e_4_1, w_e_4_2, w_e_4_3, w_e_4_4, w_k_atn_NoBench, w_k_tx_BenchError_NoBench, w_k_q_NoBench_NoBench, w_k_q_NoBench_n, w_k_q_ValueError_NoBench, w_k_q_ValueError_n, w_k_q_NoNumber_NoBench, w_k_q_NoNumber_n, w_k_q_NoText_NoBench, w_k_q_NoText_n, w_k_q_NoTable_NoBench, w_k_q_NoTable_n, w_k_q_NoBox_NoBench, w_k_q_NoBox_n, w_k_q_NoStock_NoBench, w_k_q_NoStock_n, w_k_q_NoWish_NoBench, w_k_q_NoWish_n, w_k_q_NoRow_NoBench, w_k_q_NoRow_n, w_k_q_Unknown_NoBench, w_k_q_Unknown_n, L_law_3, hnb, ix0, mroom, mroom2, g1, k1, n1, la, fl, ne, lq, ha, ixa, hw, ct, cd, room1, room2, room3, od, hW, dw, cw, tw, tz, lr, hsl, b2, s2]
      exact rfl
  · refine' ⟨_, _, _, _, _, ?h⟩
    case h =>
      simp_arith [w_k_0, w_e_0_0, w_e_0_1, w_e_0_2, w_e_0_3, w_e_0_4, w_k_1, w_e_1_0, w_e_1_1, w_e_1_2, w_e_1_3, w_e_1_4, w_k_2, w_e_2_0, w_e_2_1, w_e_2_2, w_e_2_3, w_e_2_4, w_k_3, w_e_3_0, w_e_3_1, w_e_3_2, w_e_3_3, w_e_3_4, w_k_4, w_e_4_0, w_e_4_1, w_e_4_2, w_e_4_3, w_e_4_4, w_k_atn_NoBench, w_k_tx_BenchError_NoBench, w_k_q_NoBench_NoBench, w_k_q_NoBench_n, w_k_q_ValueError_NoBench, w_k_q_ValueError_n, w_k_q_NoNumber_NoBench, w_k_q_NoNumber_n, w_k_q_NoText_NoBench, w_k_q_NoText_n, w_k_q_NoTable_NoBench, w_k_q_NoTable_n, w_k_q_NoBox_NoBench, w_k_q_NoBox_n, w_k_q_NoStock_NoBench, w_k_q_NoStock_n, w_k_q_NoWish_NoBench, w_k_q_NoWish_n, w_k_q_NoRow_NoBench, w_k_q_NoRow_n, w_k_q_Unknown_NoBench, w_k_q_Unknown_n, L_law_3, hnb, ix0, mroom, mroom2, g1, k1, n1, la, fl, ne, lq, ha, ixa, hw, ct, cd, room1, room2, room3, od, hW, b1, s1]
      exact rfl
theorem law_data (ns : List Int) (h : ns.length ≤ 63) : F_law [.lst (ns.map D.int)] = .ret (.bl true) none := by
  obtain ⟨s0, hs, o0⟩ := drawn_ok ns 31
  have cl := cell_at_eq ns 0
  rw [Int.natCast_zero] at cl
  generalize cellAt ns 0 = c at *
  obtain ⟨x, s1, h1, x0, x1, o1⟩ := draw_ex s0 9 o0 (by decide) (by decide)
  obtain ⟨y, s2, h2, y0, y1, o2⟩ := draw_ex s1 61 o1 (by decide) (by decide)
  obtain ⟨z, s3, h3, z0, z1, o3⟩ := draw_ex s2 3 o2 (by decide) (by decide)
  obtain ⟨m, hm, hm60⟩ : ∃ m : Nat, ([.int x, .int y, .int 60] : List D)[z.toNat]? = some (.int (m : Int)) ∧ m ≤ 60 := by
    obtain rfl | rfl | rfl : z = 0 ∨ z = 1 ∨ z = 2 := by omega
    · exact ⟨x.toNat, by rw [show ((x.toNat : Nat) : Int) = x by omega]; rfl, by omega⟩
    · exact ⟨y.toNat, by rw [show ((y.toNat : Nat) : Int) = y by omega]; rfl, by omega⟩
    · exact ⟨60, rfl, by decide⟩
  have rg := rng1_len m (by omega)
  have rg60 : rng1 [.int 60] = some (rngL 0 60) := rng1_len 60 (by omega)
  obtain ⟨s4, qs, p1, o4, l4, ok4⟩ := pieces_run (decide (c % 16 = 5)) (.val (.lst (ns.map D.int))) (.val (.int (m : Int))) .no .no .no .no .no .no .no .no m 0 s3 [] o3 (fun p h => by simp at h)
  rw [List.map_nil] at p1
  simp only [List.length_nil, Nat.zero_add] at l4
  obtain ⟨s5, ms, p2, o5, l5, ok5⟩ := pieces_run (decide (c % 16 = 5)) (.val (.lst (ns.map D.int))) (.val (.int (m : Int))) (.own (.lst (qs.map pD))) .no .no .no .no .no .no .no 60 0 s4 [] o4 (fun p h => by simp at h)
  rw [List.map_nil] at p2
  simp only [List.length_nil, Nat.zero_add] at l5
  rw [show E_law_1 = E_law_2 from rfl] at p2
  have la := look_at_eq qs (by omega) ok4
  have lb := look_at_eq ms (by omega) ok5
  have l0 := look_at_eq [] (by decide) (fun p h => by simp at h)
  rw [List.map_nil] at l0
  have rl1 : (rngL 0 m).length ≤ 1000000 := by rw [rngL_length]; omega
  have rl2 : (rngL 0 60).length ≤ 1000000 := by rw [rngL_length]; decide
  have run : ∀ (cs : List Int) (c0 c6 c7 c8 c9 c10 c11 : Cell), ∃ d6 d7 d8 d9 d10 d11, forR (tgN 6) L_law_3 (cs.map D.int) [c0, .own s5, .val (.bl (decide (c % 16 = 5))), .val (.int (m : Int)), .own (.lst (qs.map pD)), .own (.lst (ms.map pD)), c6, c7, c8, c9, c10, c11, .no] =
      .nx [c0, .own s5, .val (.bl (decide (c % 16 = 5))), .val (.int (m : Int)), .own (.lst (qs.map pD)), .own (.lst (ms.map pD)), d6, d7, d8, d9, d10, d11, .no] := by
    intro cs
    induction cs with
    | nil => intro c0 c6 c7 c8 c9 c10 c11; exact ⟨_, _, _, _, _, _, rfl⟩
    | cons k cs ih =>
      intro c0 c6 c7 c8 c9 c10 c11
      obtain ⟨d7, d8, d9, d10, d11, t⟩ := turn09 (decide (c % 16 = 5)) k s5 (.val (.int (m : Int))) qs ms (by omega) (by omega) ok4 c0 c7 c8 c9 c10 c11
      obtain ⟨e6, e7, e8, e9, e10, e11, r⟩ := ih c0 (.val (.int k)) d7 d8 d9 d10 d11
      refine ⟨e6, e7, e8, e9, e10, e11, ?_⟩
      rw [List.map_cons, forR_nx rfl t]
      exact r
  obtain ⟨e6, e7, e8, e9, e10, e11, r⟩ := run (((ns.take 31).drop 1) ++ [(ns.length : Int)]) (.val (.lst (ns.map D.int))) .no .no .no .no .no .no
  rw [List.map_append, List.map_drop, List.map_take, List.map_cons, List.map_nil] at r
  generalize qs.map pD = Q at *
  generalize ms.map pD = M at *
  generalize (m : Int) = mm at *
  generalize rngL 0 m = r1 at *
  generalize rngL 0 60 = r2 at *
  simp_arith [w_k_0, w_e_0_0, w_e_0_1, w_e_0_2, w_e_0_3, w_e_0_4, w_k_1, w_e_1_0, w_e_1_1, w_e_1_2, w_e_1_3, w_e_1_4, w_k_2, w_e_2_0, w_e_2_1, w_e_2_2, w_e_2_3, w_e_2_4, w_k_3, w_e_3_0, w_e_3_1, w_e_3_2, w_e_3_3, w_e_3_4, w_k_4, w_e_4_0, w_e_4_1, w_e_4_2, w_e_4_3, w_e_4_4, w_k_atn_NoBench, w_k_tx_BenchError_NoBench, w_k_q_NoBench_NoBench, w_k_q_NoBench_n, w_k_q_ValueError_NoBench, w_k_q_ValueError_n, w_k_q_NoNumber_NoBench, w_k_q_NoNumber_n, w_k_q_NoText_NoBench, w_k_q_NoText_n, w_k_q_NoTable_NoBench, w_k_q_NoTable_n, w_k_q_NoBox_NoBench, w_k_q_NoBox_n, w_k_q_NoStock_NoBench, w_k_q_NoStock_n, w_k_q_NoWish_NoBench, w_k_q_NoWish_n, w_k_q_NoRow_NoBench, w_k_q_NoRow_n, w_k_q_Unknown_NoBench, w_k_q_Unknown_n, F_law, B_law, N_law, hs, cl, h1, h2, h3, hm, rg, rg60, p1, p2, la, lb, l0, rl1, rl2, r, List.length_map]

end LAW

open PySem PySem.W PyProof.Rows in
set_option maxRecDepth 100000 in
set_option maxHeartbeats 0 in
set_option pp.maxSteps 300 in
set_option pp.deepTerms.threshold 3 in
theorem PySem.Challenge.cw_grindbench_k09_benches_looked_at_holds : PySem.Challenge.rw_grindbench_k09_benches_looked_at.Holds := by
  w_on; o_law; k_head; (case hw => w_witness2)
  k_fill
  refine DL.dl_walk (l := PySem.Challenge.rw_grindbench_k09_benches_looked_at) (k := 6) (x := "_law_script") LAW.F_law rfl rfl ⟨rfl, by decide, by decide⟩ (fun w h Y => PySem.W.kIn_of Y) LAW.law_data ?F
  case F =>
    intro w mg fa h KX G hmg
    refine' LAW.all_mk KX G hmg ?a0 ?l0 ?c0 ?k0 ?a1 ?l1 ?c1 ?k1 ?a2 ?l2 ?c2 ?k2 ?a3 ?l3 ?c3 ?k3 ?a4 ?l4 ?c4 ?k4 ?a5 ?l5 ?c5 ?k5 ?a6 ?l6 ?c6 ?k6 ?a7 ?l7 ?c7 ?k7 ?a8 ?l8 ?c8 ?k8 ?a9 ?l9 ?c9 ?k9 ?a10 ?l10 ?c10 ?k10 ?a11 ?l11 ?c11 ?k11 ?a12 ?l12 ?c12 ?k12 ?a13 ?l13 ?c13 ?k13 ?a14 ?l14 ?c14 ?k14 ?a15 ?l15 ?c15 ?k15 ?a16 ?l16 ?c16 ?k16 ?a17 ?l17 ?c17 ?k17  ?Xa0 ?Xs0 ?Xt0 ?Xc0 ?Xz0 ?Xa1 ?Xs1 ?Xt1 ?Xc1 ?Xz1 ?Xa2 ?Xs2 ?Xt2 ?Xc2 ?Xz2 ?Xa3 ?Xs3 ?Xt3 ?Xc3 ?Xz3 ?Xa4 ?Xs4 ?Xt4 ?Xc4 ?Xz4 ?Xa5 ?Xs5 ?Xt5 ?Xc5 ?Xz5 ?Xa6 ?Xs6 ?Xt6 ?Xc6 ?Xz6 ?Xa7 ?Xs7 ?Xt7 ?Xc7 ?Xz7 ?Xa8 ?Xs8 ?Xt8 ?Xc8 ?Xz8 ?Xa9 ?Xs9 ?Xt9 ?Xc9 ?Xz9 ?Xg0 ?Xg1 ?Xd1 ?Xe1 ?Xf1 ?Xh1 ?Xo1 ?Xk1 ?Xi1 ?XL1 ?Xsa1 ?Xti1 ?Xno1 ?Xl1 ?Xlc1 ?Xlk1 ?Xb01 ?Xb11 ?Xb21 ?Xy1_0 ?Xy1_2 ?Xy1_3 ?Xy1_4 ?Xy1_5 ?Xy1_6 ?Xy1_7 ?Xy1_8 ?Xy1_9 ?Xv1 ?Xn1 ?Xn3 ?Xn7 ?Xn6 ?Xn2 ?Xn5 ?Xn8 ?Xn4 ?Xn9 ?z_ValueError ?z_abs ?z_all ?z_bool ?z_enumerate ?z_int ?z_isinstance ?z_len ?z_list ?z_range ?z_str ?z_tuple ?kg0

    (case a0 => k_is); (case l0 => k_is); (case c0 => k_is); (case k0 => k_is)
    (case a1 => k_is); (case l1 => k_is); (case c1 => k_is); (case k1 => k_is)
    (case a2 => k_is); (case l2 => k_is); (case c2 => k_is); (case k2 => k_is)
    (case a3 => k_is); (case l3 => k_is); (case c3 => k_is); (case k3 => k_is)
    (case a4 => k_is); (case l4 => k_is); (case c4 => k_is); (case k4 => k_is)
    (case a5 => k_is); (case l5 => k_is); (case c5 => k_is); (case k5 => k_is)
    (case a6 => k_is); (case l6 => k_is); (case c6 => k_is); (case k6 => k_is)
    (case a7 => k_is); (case l7 => k_is); (case c7 => k_is); (case k7 => k_is)
    (case a8 => k_is); (case l8 => k_is); (case c8 => k_is); (case k8 => k_is)
    (case a9 => k_is); (case l9 => k_is); (case c9 => k_is); (case k9 => k_is)
    (case a10 => k_is); (case l10 => k_is); (case c10 => k_is); (case k10 => k_is)
    (case a11 => k_is); (case l11 => k_is); (case c11 => k_is); (case k11 => k_is)
    (case a12 => k_is); (case l12 => k_is); (case c12 => k_is); (case k12 => k_is)
    (case a13 => k_is); (case l13 => k_is); (case c13 => k_is); (case k13 => k_is)
    (case a14 => k_is); (case l14 => k_is); (case c14 => k_is); (case k14 => k_is)
    (case a15 => k_is); (case l15 => k_is); (case c15 => k_is); (case k15 => k_is)
    (case a16 => k_is); (case l16 => k_is); (case c16 => k_is); (case k16 => k_is)
    (case a17 => k_is); (case l17 => k_is); (case c17 => k_is); (case k17 => k_is)
    (case Xa0 => k_is)
    (case Xa1 => k_is)
    (case Xa2 => k_is)
    (case Xa3 => k_is)
    (case Xa4 => k_is)
    (case Xa5 => k_is)
    (case Xa6 => k_is)
    (case Xa7 => k_is)
    (case Xa8 => k_is)
    (case Xa9 => k_is)
    (case Xi1 => k_is)
    (case XL1 => k_is)
    (case Xl1 => k_is)
    (case Xs0 => k_is)
    (case Xt0 => k_is)
    (case Xc0 => k_is)
    (case Xz0 => first | rfl | k_is)
    (case Xs1 => k_is)
    (case Xt1 => k_is)
    (case Xc1 => k_is)
    (case Xz1 => first | rfl | k_is)
    (case Xs2 => k_is)
    (case Xt2 => k_is)
    (case Xc2 => k_is)
    (case Xz2 => first | rfl | k_is)
    (case Xs3 => k_is)
    (case Xt3 => k_is)
    (case Xc3 => k_is)
    (case Xz3 => first | rfl | k_is)
    (case Xs4 => k_is)
    (case Xt4 => k_is)
    (case Xc4 => k_is)
    (case Xz4 => first | rfl | k_is)
    (case Xs5 => k_is)
    (case Xt5 => k_is)
    (case Xc5 => k_is)
    (case Xz5 => first | rfl | k_is)
    (case Xs6 => k_is)
    (case Xt6 => k_is)
    (case Xc6 => k_is)
    (case Xz6 => first | rfl | k_is)
    (case Xs7 => k_is)
    (case Xt7 => k_is)
    (case Xc7 => k_is)
    (case Xz7 => first | rfl | k_is)
    (case Xs8 => k_is)
    (case Xt8 => k_is)
    (case Xc8 => k_is)
    (case Xz8 => first | rfl | k_is)
    (case Xs9 => k_is)
    (case Xt9 => k_is)
    (case Xc9 => k_is)
    (case Xz9 => first | rfl | k_is)
    (case Xg0 => k_is)
    (case Xg1 => k_is)
    (case Xd1 => k_is)
    (case Xe1 => k_is)
    (case Xf1 => k_is)
    (case Xh1 => k_is)
    (case Xo1 => k_is)
    (case Xk1 => k_is)
    (case Xsa1 => k_is)
    (case Xti1 => k_is)
    (case Xno1 => k_is)
    (case Xlc1 => k_is)
    (case Xlk1 => k_is)
    (case Xb01 => k_is)
    (case Xb11 => k_is)
    (case Xb21 => k_is)
    (case Xy1_0 => k_is)
    (case Xy1_2 => k_is)
    (case Xy1_3 => k_is)
    (case Xy1_4 => k_is)
    (case Xy1_5 => k_is)
    (case Xy1_6 => k_is)
    (case Xy1_7 => k_is)
    (case Xy1_8 => k_is)
    (case Xy1_9 => k_is)
    (case Xv1 => k_is)
    (case Xn1 => k_is)
    (case Xn3 => k_is)
    (case Xn7 => k_is)
    (case Xn6 => k_is)
    (case Xn2 => k_is)
    (case Xn5 => k_is)
    (case Xn8 => k_is)
    (case Xn4 => k_is)
    (case Xn9 => k_is)
    (case z_ValueError => k_is)
    (case z_abs => k_is)
    (case z_all => k_is)
    (case z_bool => k_is)
    (case z_enumerate => k_is)
    (case z_int => k_is)
    (case z_isinstance => k_is)
    (case z_len => k_is)
    (case z_list => k_is)
    (case z_range => k_is)
    (case z_str => k_is)
    (case z_tuple => k_is)
    (case kg0 => k_is)
#print axioms PySem.Challenge.cw_grindbench_k09_benches_looked_at_holds

