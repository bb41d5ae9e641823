import PyProof.Rows.All
import Wide.All
import OpenK.AllK
import Wide.FinOn
import HandS.ForMost
import HandS.Exc
import HandS.TryOnly
import HandS.TryMany
import HandS.ExcOwn
import HandS.CallSlots
import HandS.WordsExc
import HandS.SortOrd
import HandS.TupSets
import HandS.DictTup
import HandS.Deep
import HandS.TupAny
import HandS.IsInst
import HandS.WideBits
import HandS.Conv
import HandS.Iter
import HandS.Zip
import PyProof.DictMoreH
import HandS.EndBits
import HandS.TupLen
import PySem.Challenge.RW_edgewide_k68_parts_told
set_option Elab.async false
set_option linter.all false
set_option maxRecDepth 100000
/-! data, slots, the heap that a frame sees -/
namespace EL
open PySem PySem.Spec PyProof.Rows L2

inductive D where
  | non | bl (b : Bool) | int (i : Int) | str (x : Str) | obj (n : Nat) | ty (n : String)
  | tup (ds : List D) | lst (ds : List D) | dic (ks vs : List D) | ins (c : Nat) (fs : List D)
  deriving Inhabited

/-- what the data lean on: the text, the world, the written part, the addresses of its defs and classes -/
structure RC where
  P : Program
  w : World
  K : PySem.W.Frag
  ad : Nat → Addr

/-- a dict by its rows -/
def dicO (a : Addr) (rows : List DictEntry) : HO := .ext fun h => ∃ (o : Obj) (es : Array DictEntry) (ep : Nat), h.get? a = some o ∧ o.ExactDict ∧ o.data = .dict es ep ∧ es.toList = rows ∧ (a == sysModules) = false

/-- the hash of a scalar key, of a tuple of scalars -/
def keyOf : D → Option Key
  | .int i => some (.inl i)
  | .str x => some (.inr x)
  | _ => none
def keysOf : List D → Option (List Key)
  | [] => some []
  | d :: r => match keyOf d, keysOf r with
    | some k, some ks => some (k :: ks)
    | _, _ => none
def hashOf (P : Program) (w : World) : D → Option Int
  | .int i => some (keyH w (.inl i))
  | .str x => some (keyH w (.inr x))
  | .tup ds => (keysOf ds).map (tupleKeyHash (mixKind P w))
  | _ => none

def keyD : Key → D
  | .inl i => .int i
  | .inr x => .str x
def tupD (k : List Key) : D := .tup (k.map keyD)
/-- keys of one sort, no two alike -/
def kNd (ks : List D) : Prop := (∃ kk : List Key, ks = kk.map keyD ∧ kk.Nodup) ∨ ∃ kt : List (List Key), ks = kt.map tupD ∧ kt.Nodup

mutual
def Rep (R : RC) (G : Hp) : D → V → Prop
  | .non, v => v = .non
  | .bl b, v => v = .bl b
  | .int i, v => v = .int i
  | .str x, v => v = .str x
  | .obj n, v => v = .ref (R.ad n)
  | .ty n, v => v = .ty n
  | .tup ds, v => ∃ a vs, v = .ref a ∧ SqT R.K G a vs ∧ Reps R G ds vs
  | .lst ds, v => ∃ a vs, v = .ref a ∧ SqL R.K G a vs ∧ Reps R G ds vs
  | .dic ks ds, v => ∃ a rows, v = .ref a ∧ Rd G a (dicO a rows) ∧ (rows.map (fun r => some r.hash) = ks.map (hashOf R.P R.w) ∧ kNd ks) ∧
      (∃ vs, Vals vs (rows.map (·.key)) ∧ Reps R G ks vs) ∧ (∃ vs, Vals vs (rows.map (·.val)) ∧ Reps R G ds vs)
  | .ins c fs, v => ∃ a dx names vs, v = .ref a ∧ Rd G a (.ins (R.ad c) dx names) ∧ names.map (·.2) = vs ∧ Reps R G fs vs
def Reps (R : RC) (G : Hp) : List D → List V → Prop
  | [], vs => vs = []
  | d :: ds, vs => ∃ v r, vs = v :: r ∧ Rep R G d v ∧ Reps R G ds r
end

/-- more is to be read -/
def Gr (G G' : Hp) : Prop := ∀ a u, Rd G a u → Rd G' a u
theorem Gr.refl (G : Hp) : Gr G G := fun _ _ h => h
theorem Gr.trans {G G1 G2 : Hp} (a : Gr G G1) (b : Gr G1 G2) : Gr G G2 := fun c u h => b c u (a c u h)
theorem Gr.of {G G' : Hp} (h : ∀ a o, G a = some o → G' a = some o) : Gr G G' := fun a u r => by
  rcases r with r | ⟨o, r⟩
  · exact .inl (h _ _ r)
  · exact .inr ⟨o, h _ _ r⟩
theorem Gr.sqL {K : PySem.W.Frag} {G G' : Hp} (g : Gr G G') {a : Addr} {vs : List V} (h : SqL K G a vs) : SqL K G' a vs := by
  rcases h with h | h
  · exact .inl (g _ _ h)
  · exact .inr h
theorem Gr.sqT {K : PySem.W.Frag} {G G' : Hp} (g : Gr G G') {a : Addr} {vs : List V} (h : SqT K G a vs) : SqT K G' a vs := by
  rcases h with h | h
  · exact .inl (g _ _ h)
  · exact .inr h
mutual
theorem Rep.mono {R : RC} {G G' : Hp} (g : Gr G G') : ∀ {d : D} {v : V}, Rep R G d v → Rep R G' d v
  | .non, _, h => by simp only [Rep] at h ⊢; exact h
  | .bl _, _, h => by simp only [Rep] at h ⊢; exact h
  | .int _, _, h => by simp only [Rep] at h ⊢; exact h
  | .str _, _, h => by simp only [Rep] at h ⊢; exact h
  | .obj _, _, h => by simp only [Rep] at h ⊢; exact h
  | .ty _, _, h => by simp only [Rep] at h ⊢; exact h
  | .tup ds, _, h => by
    simp only [Rep] at h ⊢
    obtain ⟨a, vs, e, s, r⟩ := h
    exact ⟨a, vs, e, g.sqT s, Reps.mono g r⟩
  | .lst ds, _, h => by
    simp only [Rep] at h ⊢
    obtain ⟨a, vs, e, s, r⟩ := h
    exact ⟨a, vs, e, g.sqL s, Reps.mono g r⟩
  | .dic ks ds, _, h => by
    simp only [Rep] at h ⊢
    obtain ⟨a, rows, e, s, hh, ⟨vs, r1, r2⟩, ⟨us, r3, r4⟩⟩ := h
    exact ⟨a, rows, e, g _ _ s, hh, ⟨vs, r1, Reps.mono g r2⟩, ⟨us, r3, Reps.mono g r4⟩⟩
  | .ins c fs, _, h => by
    simp only [Rep] at h ⊢
    obtain ⟨a, dx, names, vs, e, s, hh, r⟩ := h
    exact ⟨a, dx, names, vs, e, g _ _ s, hh, Reps.mono g r⟩
theorem Reps.mono {R : RC} {G G' : Hp} (g : Gr G G') : ∀ {ds : List D} {vs : List V}, Reps R G ds vs → Reps R G' ds vs
  | [], _, h => by simp only [Reps] at h ⊢; exact h
  | d :: ds, _, h => by
    simp only [Reps] at h ⊢
    obtain ⟨v, r, e, h1, h2⟩ := h
    exact ⟨v, r, e, Rep.mono g h1, Reps.mono g h2⟩
end

section
variable {R : RC} {G : Hp}
theorem Reps.nil : Reps R G [] [] := by simp only [Reps]
theorem Reps.cons {d : D} {v : V} {ds : List D} {vs : List V} (h : Rep R G d v) (t : Reps R G ds vs) : Reps R G (d :: ds) (v :: vs) := by
  simp only [Reps]; exact ⟨v, vs, rfl, h, t⟩
theorem Reps.inv {d : D} {ds : List D} {vs : List V} (h : Reps R G (d :: ds) vs) : ∃ v r, vs = v :: r ∧ Rep R G d v ∧ Reps R G ds r := by
  simpa only [Reps] using h
theorem Reps.inv0 {vs : List V} (h : Reps R G [] vs) : vs = [] := by simpa only [Reps] using h
theorem Reps.length : ∀ {ds : List D} {vs : List V}, Reps R G ds vs → ds.length = vs.length
  | [], _, h => by rw [h.inv0] <;> rfl
  | d :: ds, _, h => by
    obtain ⟨v, r, e, _, t⟩ := h.inv
    rw [e, List.length_cons, List.length_cons, Reps.length t]
theorem Reps.append : ∀ {ds es : List D} {vs us : List V}, Reps R G ds vs → Reps R G es us → Reps R G (ds ++ es) (vs ++ us)
  | [], _, _, _, h, k => by rw [h.inv0]; exact k
  | d :: ds, _, _, _, h, k => by
    obtain ⟨v, r, e, h1, t⟩ := h.inv
    rw [e]; exact Reps.cons h1 (Reps.append t k)
theorem Reps.get : ∀ {ds : List D} {vs : List V} {i : Nat} {d : D}, Reps R G ds vs → ds[i]? = some d → ∃ v, vs[i]? = some v ∧ Rep R G d v
  | [], _, _, _, _, e => by simp at e
  | d :: ds, _, 0, x, h, e => by
    obtain ⟨v, r, q, h1, t⟩ := h.inv
    rw [q]
    simp only [List.getElem?_cons_zero, Option.some.injEq] at e
    subst e
    exact ⟨v, rfl, h1⟩
  | d :: ds, _, i + 1, x, h, e => by
    obtain ⟨v, r, q, h1, t⟩ := h.inv
    rw [q]
    simp only [List.getElem?_cons_succ] at e ⊢
    exact Reps.get t e
theorem Reps.get' {ds : List D} {vs : List V} {i : Nat} {v : V} (h : Reps R G ds vs) (e : vs[i]? = some v) : ∃ d, ds[i]? = some d ∧ Rep R G d v := by
  have hl := h.length
  obtain ⟨hi, _⟩ := List.getElem?_eq_some_iff.mp e
  have hd : ds[i]? = some ds[i] := List.getElem?_eq_getElem (by omega)
  obtain ⟨v', e', r⟩ := h.get hd
  rw [e] at e'
  cases e'
  exact ⟨_, hd, r⟩
theorem Reps.take : ∀ {ds : List D} {vs : List V} (n : Nat), Reps R G ds vs → Reps R G (ds.take n) (vs.take n)
  | _, _, 0, _ => by simp [Reps.nil]
  | [], _, n + 1, h => by rw [h.inv0]; simp [Reps.nil]
  | d :: ds, _, n + 1, h => by
    obtain ⟨v, r, q, h1, t⟩ := h.inv
    rw [q]; exact Reps.cons h1 (Reps.take n t)
theorem Reps.drop : ∀ {ds : List D} {vs : List V} (n : Nat), Reps R G ds vs → Reps R G (ds.drop n) (vs.drop n)
  | _, _, 0, h => h
  | [], _, n + 1, h => by rw [h.inv0]; simp [Reps.nil]
  | d :: ds, _, n + 1, h => by
    obtain ⟨v, r, q, h1, t⟩ := h.inv
    rw [q]; exact Reps.drop n t
theorem Reps.set : ∀ {ds : List D} {vs : List V} {d : D} {v : V} (n : Nat), Reps R G ds vs → Rep R G d v → Reps R G (ds.set n d) (vs.set n v)
  | [], _, _, _, _, h, _ => by rw [h.inv0]; simp [Reps.nil]
  | x :: ds, _, d, v, 0, h, k => by
    obtain ⟨w, r, q, h1, t⟩ := h.inv
    rw [q]; exact Reps.cons k t
  | x :: ds, _, d, v, n + 1, h, k => by
    obtain ⟨w, r, q, h1, t⟩ := h.inv
    rw [q]; exact Reps.cons h1 (Reps.set n t k)
theorem Reps.erase : ∀ {ds : List D} {vs : List V} (n : Nat), Reps R G ds vs → Reps R G (ds.eraseIdx n) (vs.eraseIdx n)
  | [], _, _, h => by rw [h.inv0]; simp [Reps.nil]
  | x :: ds, _, 0, h => by
    obtain ⟨w, r, q, h1, t⟩ := h.inv
    rw [q]; exact t
  | x :: ds, _, n + 1, h => by
    obtain ⟨w, r, q, h1, t⟩ := h.inv
    rw [q]; exact Reps.cons h1 (Reps.erase n t)
theorem Reps.dropLast : ∀ {ds : List D} {vs : List V}, Reps R G ds vs → Reps R G ds.dropLast vs.dropLast := fun {ds vs} h => by
  rw [List.dropLast_eq_take, List.dropLast_eq_take, h.length]
  exact h.take _
theorem Reps.reverse {ds : List D} : ∀ {vs : List V}, Reps R G ds vs → Reps R G ds.reverse vs.reverse := by
  induction ds with
  | nil => intro vs h; rw [h.inv0]; exact Reps.nil
  | cons d ds ih =>
    intro vs h
    obtain ⟨v, r, q, h1, t⟩ := h.inv
    rw [q, List.reverse_cons, List.reverse_cons]
    exact (ih t).append (.cons h1 .nil)

/-- a scalar's value -/
def scV : D → Option V
  | .non => some .non
  | .bl b => some (.bl b)
  | .int i => some (.int i)
  | .str x => some (.str x)
  | _ => none
theorem Rep.sc {d : D} {v : V} (h : scV d = some v) : Rep R G d v := by
  cases d <;> simp only [scV] at h <;> first
    | (cases h; simp only [Rep])
    | (cases h)
theorem Rep.int_iff {i : Int} {v : V} : Rep R G (.int i) v ↔ v = .int i := by simp only [Rep]
theorem Rep.bl_iff {i : Bool} {v : V} : Rep R G (.bl i) v ↔ v = .bl i := by simp only [Rep]
theorem Rep.str_iff {i : Str} {v : V} : Rep R G (.str i) v ↔ v = .str i := by simp only [Rep]
theorem Rep.non_iff {v : V} : Rep R G .non v ↔ v = .non := by simp only [Rep]
theorem Rep.tup_iff {ds : List D} {v : V} : Rep R G (.tup ds) v ↔ ∃ a vs, v = .ref a ∧ SqT R.K G a vs ∧ Reps R G ds vs := by simp only [Rep]
theorem Rep.lst_iff {ds : List D} {v : V} : Rep R G (.lst ds) v ↔ ∃ a vs, v = .ref a ∧ SqL R.K G a vs ∧ Reps R G ds vs := by simp only [Rep]
end
end EL

set_option Elab.async false
set_option linter.all false
set_option maxRecDepth 100000
/-! slots and the relation between data and the abstract heap -/
namespace EL
open PySem PySem.Spec PyProof.Rows L2

/-- a slot: nothing, data that never change, a list or dict of the frame's own -/
inductive Sl where
  | no | im (d : D) | ow (d : D)
  deriving Inhabited
abbrev Ds := List Sl

open Classical in
noncomputable def hid (H : Hp) (S : Addr → Prop) : Hp := fun a => if S a then none else H a
theorem hid_in {H : Hp} {S : Addr → Prop} {a : Addr} (h : S a) : hid H S a = none := by unfold hid; exact if_pos h
theorem hid_out {H : Hp} {S : Addr → Prop} {a : Addr} (h : ¬ S a) : hid H S a = H a := by unfold hid; exact if_neg h
theorem hid_some {H : Hp} {S : Addr → Prop} {a : Addr} {o : HO} (h : hid H S a = some o) : ¬ S a ∧ H a = some o := by
  by_cases s : S a
  · rw [hid_in s] at h; cases h
  · rw [hid_out s] at h; exact ⟨s, h⟩
theorem hid_gr {H H' : Hp} {S S' : Addr → Prop} (hs : ∀ a o, H a = some o → S' a → S a) (hh : ∀ a o, ¬ S a → H a = some o → H' a = some o) : Gr (hid H S) (hid H' S') :=
  Gr.of fun a o e => by
    obtain ⟨n, e1⟩ := hid_some e
    rw [hid_out (fun z => n (hs a o e1 z))]
    exact hh a o n e1
theorem hid_le (H : Hp) (S : Addr → Prop) : Gr (hid H S) H := Gr.of fun a o e => (hid_some e).2

/-- a list or dict at a, by its object -/
def AtO (R : RC) (G : Hp) (a : Addr) (o : HO) : D → Prop
  | .lst ds => ∃ vs, o = .lst vs ∧ Reps R G ds vs
  | .dic ks ds => ∃ rows, o = dicO a rows ∧ (rows.map (fun r => some r.hash) = ks.map (hashOf R.P R.w) ∧ kNd ks) ∧
      (∃ vs, Vals vs (rows.map (·.key)) ∧ Reps R G ks vs) ∧ (∃ vs, Vals vs (rows.map (·.val)) ∧ Reps R G ds vs)
  | _ => False
def At (R : RC) (G H : Hp) (a : Addr) (d : D) : Prop := ∃ o, H a = some o ∧ AtO R G a o d
theorem AtO.mono {R : RC} {G G' : Hp} (g : Gr G G') {a : Addr} {o : HO} : ∀ {d : D}, AtO R G a o d → AtO R G' a o d
  | .lst _, ⟨vs, e, r⟩ => ⟨vs, e, r.mono g⟩
  | .dic _ _, ⟨rows, e, hh, ⟨vs, r1, r2⟩, ⟨us, r3, r4⟩⟩ => ⟨rows, e, hh, ⟨vs, r1, r2.mono g⟩, ⟨us, r3, r4.mono g⟩⟩
  | .non, h => h.elim
  | .bl _, h => h.elim
  | .int _, h => h.elim
  | .str _, h => h.elim
  | .obj _, h => h.elim
  | .ty _, h => h.elim
  | .tup _, h => h.elim
  | .ins _ _, h => h.elim
theorem AtO.rep {R : RC} {G : Hp} {a : Addr} {o : HO} (hg : Rd G a o) : ∀ {d : D}, AtO R G a o d → Rep R G d (.ref a)
  | .lst _, ⟨vs, e, r⟩ => by
    subst e
    simp only [Rep]
    exact ⟨a, vs, rfl, .inl hg, r⟩
  | .dic _ _, ⟨rows, e, hh, r1, r2⟩ => by
    subst e
    simp only [Rep]
    exact ⟨a, rows, rfl, hg, hh, r1, r2⟩
  | .non, h => h.elim
  | .bl _, h => h.elim
  | .int _, h => h.elim
  | .str _, h => h.elim
  | .obj _, h => h.elim
  | .ty _, h => h.elim
  | .tup _, h => h.elim
  | .ins _ _, h => h.elim

/-- a frame: what stands fast, what others own, the first argument's address where it is lent to be changed -/
structure Fr where
  R : RC
  F : Hp
  B : Addr → Prop
  L : Option Addr

def OwnAt (δ : Ds) (σ : L2.St) (i : Nat) (a : Addr) : Prop := (∃ d, δ[i]? = some (.ow d)) ∧ σ[i]? = some (some (.ref a))
def Own (δ : Ds) (σ : L2.St) (a : Addr) : Prop := ∃ i, OwnAt δ σ i a
def Hd (Φ : Fr) (X : Addr → Prop) (δ : Ds) (σ : L2.St) (a : Addr) : Prop := X a ∨ Φ.B a ∨ Own δ σ a
noncomputable def gG (Φ : Fr) (X : Addr → Prop) (δ : Ds) (σ : L2.St) (H : Hp) : Hp := hid H (Hd Φ X δ σ)
abbrev X0 : Addr → Prop := fun _ => False
abbrev X1 (a : Addr) : Addr → Prop := fun b => b = a

structure Rl (Φ : Fr) (X : Addr → Prop) (δ : Ds) (σ : L2.St) (H : Hp) : Prop where
  len : δ.length = σ.length
  fix : ∀ a o, Φ.F a = some o → H a = some o
  inj : ∀ i j a, OwnAt δ σ i a → OwnAt δ σ j a → i = j
  own : ∀ a, Own δ σ a → Φ.F a = none
  im : ∀ (i : Nat) (d : D), δ[i]? = some (.im d) → ∃ v, σ[i]? = some (some v) ∧ Rep Φ.R (gG Φ X δ σ H) d v
  ow : ∀ (i : Nat) (d : D), δ[i]? = some (.ow d) → ∃ a, σ[i]? = some (some (.ref a)) ∧ At Φ.R (gG Φ X δ σ H) H a d
  lent : ∀ a, Φ.L = some a → OwnAt δ σ 0 a
  bd : ∀ b, Φ.B b → ∃ o, H b = some o
  xd : ∀ a, X a → (∃ o, H a = some o) ∧ Φ.F a = none ∧ ¬ Φ.B a ∧ ¬ Own δ σ a
  bf : ∀ b, Φ.B b → Φ.F b = none → Φ.L = some b

section
variable {Φ : Fr} {X : Addr → Prop} {δ : Ds} {σ : L2.St} {H : Hp}

theorem Rl.ownD (r : Rl Φ X δ σ H) {a : Addr} (h : Own δ σ a) : ∃ o, H a = some o := by
  obtain ⟨i, ⟨d, hd⟩, e⟩ := h
  obtain ⟨b, e', o, ho, _⟩ := r.ow i d hd
  rw [e] at e'; cases e'
  exact ⟨o, ho⟩
theorem Rl.hdD (r : Rl Φ X δ σ H) {a : Addr} (h : Hd Φ X δ σ a) : ∃ o, H a = some o := by
  rcases h with h | h | h
  · exact (r.xd a h).1
  · exact r.bd a h
  · exact r.ownD h
theorem Rl.newHd (r : Rl Φ X δ σ H) {p : Addr} (hp : H p = none) : ¬ Hd Φ X δ σ p := fun h => by
  obtain ⟨o, e⟩ := r.hdD h
  rw [hp] at e; cases e
theorem Rl.newF (r : Rl Φ X δ σ H) {p : Addr} (hp : H p = none) : Φ.F p = none := by
  cases e : Φ.F p with
  | none => rfl
  | some o =>
    have := r.fix p o e
    rw [hp] at this; cases this

/-- a new object that never changes -/
theorem Rl.alloc (r : Rl Φ X δ σ H) {p : Addr} {o : HO} (hp : H p = none) : Rl Φ X δ σ (upd H p o) ∧ Gr (gG Φ X δ σ H) (gG Φ X δ σ (upd H p o)) ∧ gG Φ X δ σ (upd H p o) p = some o := by
  have keep : ∀ a u, H a = some u → upd H p o a = some u := fun a u e => by rw [upd_ne (ne_of_none e hp)]; exact e
  have g : Gr (gG Φ X δ σ H) (gG Φ X δ σ (upd H p o)) := hid_gr (fun _ _ _ h => h) fun a u _ e => keep a u e
  refine ⟨⟨r.len, fun a u e => keep a u (r.fix a u e), r.inj, r.own, fun i d e => ?_, fun i d e => ?_, r.lent, fun b h => ?_, fun a h => ?_, r.bf⟩, g, ?_⟩
  · obtain ⟨v, e1, e2⟩ := r.im i d e
    exact ⟨v, e1, e2.mono g⟩
  · obtain ⟨a, e1, u, e2, e3⟩ := r.ow i d e
    exact ⟨a, e1, u, keep a u e2, e3.mono g⟩
  · obtain ⟨u, e⟩ := r.bd b h
    exact ⟨u, keep b u e⟩
  · obtain ⟨⟨u, e⟩, q⟩ := r.xd a h
    exact ⟨⟨u, keep a u e⟩, q⟩
  · show hid _ _ p = some o
    rw [hid_out (r.newHd hp), upd_same]
/-- a new object that nobody else has -/
theorem Rl.temp (r : Rl Φ X0 δ σ H) {p : Addr} {o : HO} (hp : H p = none) : Rl Φ (X1 p) δ σ (upd H p o) ∧ Gr (gG Φ X0 δ σ H) (gG Φ (X1 p) δ σ (upd H p o)) := by
  have keep : ∀ a u, H a = some u → upd H p o a = some u := fun a u e => by rw [upd_ne (ne_of_none e hp)]; exact e
  have np := r.newHd hp
  have g : Gr (gG Φ X0 δ σ H) (gG Φ (X1 p) δ σ (upd H p o)) := hid_gr (fun a u e h => by
    rcases h with h | h
    · have h' : a = p := h
      rw [h', hp] at e; cases e
    · exact .inr h) fun a u _ e => keep a u e
  refine ⟨⟨r.len, fun a u e => keep a u (r.fix a u e), r.inj, r.own, fun i d e => ?_, fun i d e => ?_, r.lent, fun b h => ?_, fun a h => ?_, r.bf⟩, g⟩
  · obtain ⟨v, e1, e2⟩ := r.im i d e
    exact ⟨v, e1, e2.mono g⟩
  · obtain ⟨a, e1, u, e2, e3⟩ := r.ow i d e
    exact ⟨a, e1, u, keep a u e2, e3.mono g⟩
  · obtain ⟨u, e⟩ := r.bd b h
    exact ⟨u, keep b u e⟩
  · obtain rfl : a = p := h
    exact ⟨⟨o, upd_same⟩, r.newF hp, fun z => np (.inr (.inl z)), fun z => np (.inr (.inr z))⟩
/-- the new object is seen from now on -/
theorem Rl.thaw (r : Rl Φ X δ σ H) : Rl Φ X0 δ σ H ∧ Gr (gG Φ X δ σ H) (gG Φ X0 δ σ H) := by
  have g : Gr (gG Φ X δ σ H) (gG Φ X0 δ σ H) := hid_gr (fun a u e h => by
    rcases h with h | h
    · exact False.elim h
    · exact .inr h) fun a u _ e => e
  refine ⟨⟨r.len, r.fix, r.inj, r.own, fun i d e => ?_, fun i d e => ?_, r.lent, r.bd, fun a h => False.elim h, r.bf⟩, g⟩
  · obtain ⟨v, e1, e2⟩ := r.im i d e
    exact ⟨v, e1, e2.mono g⟩
  · obtain ⟨a, e1, u, e2, e3⟩ := r.ow i d e
    exact ⟨a, e1, u, e2, e3.mono g⟩
theorem Rl.thaw1 {a : Addr} {d : D} (r : Rl Φ (X1 a) δ σ H) (h : At Φ.R (gG Φ (X1 a) δ σ H) H a d) : Rep Φ.R (gG Φ X0 δ σ H) d (.ref a) := by
  obtain ⟨o, e, h⟩ := h
  refine (h.mono r.thaw.2).rep (.inl ?_)
  show hid _ _ a = some o
  rw [hid_out (fun z => ?_)]
  · exact e
  · obtain ⟨_, _, n1, n2⟩ := r.xd a rfl
    rcases z with z | z | z
    · exact z
    · exact n1 z
    · exact n2 z

theorem get_set {α : Type} {l : List α} {i j : Nat} {x y : α} (h : (l.set i x)[j]? = some y) : (j = i ∧ y = x) ∨ (j ≠ i ∧ l[j]? = some y) := by
  by_cases e : j = i
  · subst e
    by_cases hl : j < l.length
    · rw [List.getElem?_set_self hl] at h
      exact .inl ⟨rfl, (Option.some.inj h).symm⟩
    · rw [List.getElem?_eq_none (by rw [List.length_set]; omega)] at h
      cases h
  · rw [List.getElem?_set_ne (Ne.symm e)] at h
    exact .inr ⟨e, h⟩

/-- the relation behind a change of one slot -/
theorem Rl.slot {s : Sl} {v : Option V} {i : Nat} (r : Rl Φ X δ σ H) {X' : Addr → Prop} (hl : Φ.L = none ∨ i ≠ 0) (hx : ∀ a, X' a → X a)
    (ho : ∀ a, s ≠ .no → (∃ d, s = .ow d) → v = some (.ref a) → X a ∧ ¬ X' a)
    (hi : ∀ d, s = .im d → ∃ w, v = some w ∧ Rep Φ.R (gG Φ X δ σ H) d w) (hw : ∀ d, s = .ow d → ∃ a, v = some (.ref a) ∧ At Φ.R (gG Φ X δ σ H) H a d) :
    Rl Φ X' (δ.set i s) (σ.set i v) H ∧ Gr (gG Φ X δ σ H) (gG Φ X' (δ.set i s) (σ.set i v) H) := by
  have at_ : ∀ j a, OwnAt (δ.set i s) (σ.set i v) j a → (j = i ∧ (∃ d, s = .ow d) ∧ v = some (.ref a)) ∨ (j ≠ i ∧ OwnAt δ σ j a) := by
    rintro j a ⟨⟨d, h1⟩, h2⟩
    rcases get_set h1 with ⟨e1, e2⟩ | ⟨e1, e2⟩
    · rcases get_set h2 with ⟨e3, e4⟩ | ⟨e3, e4⟩
      · exact .inl ⟨e1, ⟨d, e2.symm⟩, e4.symm⟩
      · exact absurd e1 e3
    · rcases get_set h2 with ⟨e3, e4⟩ | ⟨e3, e4⟩
      · exact absurd e3 e1
      · exact .inr ⟨e1, ⟨d, e2⟩, e4⟩
  have ow_ : ∀ a, Own (δ.set i s) (σ.set i v) a → X a ∨ Own δ σ a := by
    rintro a ⟨j, h⟩
    rcases at_ j a h with ⟨e1, e2, e3⟩ | ⟨e1, e2⟩
    · obtain ⟨d, e2⟩ := e2
      exact .inl (ho a (by rw [e2]; exact fun z => by cases z) ⟨d, e2⟩ e3).1
    · exact .inr ⟨j, e2⟩
  have g : Gr (gG Φ X δ σ H) (gG Φ X' (δ.set i s) (σ.set i v) H) := hid_gr (fun a u e h => by
    rcases h with h | h | h
    · exact .inl (hx a h)
    · exact .inr (.inl h)
    · rcases ow_ a h with h | h
      · exact .inl h
      · exact .inr (.inr h)) fun a u _ e => e
  refine ⟨⟨by rw [List.length_set, List.length_set]; exact r.len, r.fix, fun j k a h1 h2 => ?_, fun a h => ?_, fun j d e => ?_, fun j d e => ?_, fun a e => ?_, r.bd, fun a h => ?_, r.bf⟩, g⟩
  · rcases at_ j a h1 with ⟨e1, ⟨d, e2⟩, e3⟩ | ⟨e1, e2⟩
    · rcases at_ k a h2 with ⟨f1, f2, f3⟩ | ⟨f1, f2⟩
      · rw [e1, f1]
      · exact absurd ⟨k, f2⟩ (r.xd a (ho a (by rw [e2]; exact fun z => by cases z) ⟨d, e2⟩ e3).1).2.2.2
    · rcases at_ k a h2 with ⟨f1, ⟨d, f2⟩, f3⟩ | ⟨f1, f2⟩
      · exact absurd ⟨j, e2⟩ (r.xd a (ho a (by rw [f2]; exact fun z => by cases z) ⟨d, f2⟩ f3).1).2.2.2
      · exact r.inj j k a e2 f2
  · rcases ow_ a h with h | h
    · exact (r.xd a h).2.1
    · exact r.own a h
  · rcases get_set e with ⟨e1, e2⟩ | ⟨e1, e2⟩
    · obtain ⟨w, e3, e4⟩ := hi d e2.symm
      refine ⟨w, ?_, e4.mono g⟩
      have hlt : j < δ.length := by
        have := (List.getElem?_eq_some_iff.mp e).1
        rwa [List.length_set] at this
      rw [e1, List.getElem?_set_self (by rw [← r.len, ← e1]; exact hlt), e3]
    · obtain ⟨w, e3, e4⟩ := r.im j d e2
      exact ⟨w, by rw [List.getElem?_set_ne (Ne.symm e1)]; exact e3, e4.mono g⟩
  · rcases get_set e with ⟨e1, e2⟩ | ⟨e1, e2⟩
    · obtain ⟨a, e3, o, e4, e5⟩ := hw d e2.symm
      refine ⟨a, ?_, o, e4, e5.mono g⟩
      have hlt : j < δ.length := by
        have := (List.getElem?_eq_some_iff.mp e).1
        rwa [List.length_set] at this
      rw [e1, List.getElem?_set_self (by rw [← r.len, ← e1]; exact hlt), e3]
    · obtain ⟨a, e3, o, e4, e5⟩ := r.ow j d e2
      exact ⟨a, by rw [List.getElem?_set_ne (Ne.symm e1)]; exact e3, o, e4, e5.mono g⟩
  · have hi0 : i ≠ 0 := by
      rcases hl with z | z
      · rw [z] at e; cases e
      · exact z
    obtain ⟨⟨d, h1⟩, h2⟩ := r.lent a e
    exact ⟨⟨d, by rw [List.getElem?_set_ne hi0]; exact h1⟩, by rw [List.getElem?_set_ne hi0]; exact h2⟩
  · obtain ⟨h1, h2, h3, h4⟩ := r.xd a (hx a h)
    refine ⟨h1, h2, h3, fun z => ?_⟩
    obtain ⟨j, z⟩ := z
    rcases at_ j a z with ⟨e1, ⟨d, e2⟩, e3⟩ | ⟨e1, e2⟩
    · exact (ho a (by rw [e2]; exact fun z => by cases z) ⟨d, e2⟩ e3).2 h
    · exact h4 ⟨j, e2⟩
/-- data that never change are stored -/
theorem Rl.storeIm {d : D} {v : V} {i : Nat} (r : Rl Φ X0 δ σ H) (hl : Φ.L = none ∨ i ≠ 0) (h : Rep Φ.R (gG Φ X0 δ σ H) d v) :
    Rl Φ X0 (δ.set i (.im d)) (σ.set i (some v)) H ∧ Gr (gG Φ X0 δ σ H) (gG Φ X0 (δ.set i (.im d)) (σ.set i (some v)) H) :=
  r.slot hl (fun a z => z) (fun a _ ⟨d, z⟩ _ => by cases z) (fun d' e => by cases e; exact ⟨v, rfl, h⟩) fun d' e => by cases e
/-- a new list or dict is stored -/
theorem Rl.storeOw {d : D} {a : Addr} {i : Nat} (r : Rl Φ (X1 a) δ σ H) (hl : Φ.L = none ∨ i ≠ 0) (h : At Φ.R (gG Φ (X1 a) δ σ H) H a d) :
    Rl Φ X0 (δ.set i (.ow d)) (σ.set i (some (.ref a))) H ∧ Gr (gG Φ (X1 a) δ σ H) (gG Φ X0 (δ.set i (.ow d)) (σ.set i (some (.ref a))) H) :=
  r.slot hl (fun a z => False.elim z) (fun b _ _ e => ⟨by cases e; rfl, fun z => z⟩) (fun d' e => by cases e) fun d' e => by cases e; exact ⟨a, rfl, h⟩
theorem set_get_self {α : Type} {l : List α} {i : Nat} {x : α} (h : l[i]? = some x) : l.set i x = l := by
  apply List.ext_getElem?
  intro j
  by_cases e : i = j
  · subst e
    rw [List.getElem?_set_self (List.getElem?_eq_some_iff.mp h).1, h]
  · rw [List.getElem?_set_ne e]
/-- a slot is forgotten -/
theorem Rl.drop {i : Nat} (r : Rl Φ X δ σ H) (hl : Φ.L = none ∨ i ≠ 0) (v : Option V) : Rl Φ X (δ.set i .no) (σ.set i v) H ∧ Gr (gG Φ X δ σ H) (gG Φ X (δ.set i .no) (σ.set i v) H) :=
  r.slot hl (fun a z => z) (fun a z => absurd rfl z) (fun d e => by cases e) fun d e => by cases e
/-- a slot's own list or dict never changes from now on -/
theorem Rl.freeze {i : Nat} {d : D} {v : V} (r : Rl Φ X0 δ σ H) (hl : Φ.L = none ∨ i ≠ 0) (hd : δ[i]? = some (.ow d)) (hv : σ[i]? = some (some v)) :
    Rl Φ X0 (δ.set i (.im d)) σ H ∧ Gr (gG Φ X0 δ σ H) (gG Φ X0 (δ.set i (.im d)) σ H) ∧ Rep Φ.R (gG Φ X0 (δ.set i (.im d)) σ H) d v := by
  obtain ⟨a, ha, o, ho, hc⟩ := r.ow i d hd
  rw [hv] at ha
  cases ha
  have hlt := (List.getElem?_eq_some_iff.mp hd).1
  obtain ⟨r1, g1⟩ := r.drop hl (some (.ref a))
  rw [set_get_self hv] at r1 g1
  have na : ¬ Hd Φ X0 (δ.set i .no) σ a := by
    rintro (z | z | ⟨j, ⟨e, h1⟩, h2⟩)
    · exact z
    · have hf : Φ.F a = none := r.own a ⟨i, ⟨d, hd⟩, hv⟩
      have hL := r.bf a z hf
      have h0 := r.lent a hL
      have := r.inj 0 i a h0 ⟨⟨d, hd⟩, hv⟩
      rcases hl with q | q
      · rw [q] at hL; cases hL
      · exact q this.symm
    · rcases get_set h1 with ⟨e1, e2⟩ | ⟨e1, e2⟩
      · cases e2
      · exact e1 (r.inj j i a ⟨⟨e, e2⟩, h2⟩ ⟨⟨d, hd⟩, hv⟩)
  have rp : Rep Φ.R (gG Φ X0 (δ.set i .no) σ H) d (.ref a) := (hc.mono g1).rep (.inl (by show hid _ _ a = some o; rw [hid_out na]; exact ho))
  obtain ⟨r2, g2⟩ := r1.storeIm (i := i) hl rp
  rw [List.set_set, set_get_self hv] at r2 g2
  exact ⟨r2, g1.trans g2, rp.mono g2⟩
/-- a slot's own list or dict is written -/
theorem Rl.write {i : Nat} {d d' : D} {a : Addr} {o' : HO} (r : Rl Φ X0 δ σ H) (hd : δ[i]? = some (.ow d)) (hv : σ[i]? = some (some (.ref a))) (h : AtO Φ.R (gG Φ X0 δ σ H) a o' d') :
    Rl Φ X0 (δ.set i (.ow d')) σ (upd H a o') ∧ gG Φ X0 (δ.set i (.ow d')) σ (upd H a o') = gG Φ X0 δ σ H := by
  have hlt := (List.getElem?_eq_some_iff.mp hd).1
  have at_ : ∀ j b, OwnAt (δ.set i (.ow d')) σ j b ↔ OwnAt δ σ j b := by
    intro j b
    constructor
    · rintro ⟨⟨e, h1⟩, h2⟩
      rcases get_set h1 with ⟨e1, e2⟩ | ⟨e1, e2⟩
      · exact ⟨⟨d, by rw [e1]; exact hd⟩, h2⟩
      · exact ⟨⟨e, e2⟩, h2⟩
    · rintro ⟨⟨e, h1⟩, h2⟩
      by_cases z : j = i
      · exact ⟨⟨d', by rw [z, List.getElem?_set_self hlt]⟩, h2⟩
      · exact ⟨⟨e, by rw [List.getElem?_set_ne (Ne.symm z)]; exact h1⟩, h2⟩
  have ow_ : ∀ b, Own (δ.set i (.ow d')) σ b ↔ Own δ σ b := fun b => ⟨fun ⟨j, h⟩ => ⟨j, (at_ j b).mp h⟩, fun ⟨j, h⟩ => ⟨j, (at_ j b).mpr h⟩⟩
  have oa : Own δ σ a := ⟨i, ⟨d, hd⟩, hv⟩
  have eg : gG Φ X0 (δ.set i (.ow d')) σ (upd H a o') = gG Φ X0 δ σ H := by
    funext b
    by_cases s : Hd Φ X0 δ σ b
    · show hid _ _ b = hid _ _ b
      rw [hid_in s, hid_in]
      rcases s with s | s | s
      · exact .inl s
      · exact .inr (.inl s)
      · exact .inr (.inr ((ow_ b).mpr s))
    · show hid _ _ b = hid _ _ b
      rw [hid_out s, hid_out]
      · rw [upd_ne]
        rintro rfl
        exact s (.inr (.inr oa))
      · rintro (z | z | z)
        · exact s (.inl z)
        · exact s (.inr (.inl z))
        · exact s (.inr (.inr ((ow_ b).mp z)))
  have F0 := r.own a oa
  refine ⟨⟨by rw [List.length_set]; exact r.len, fun b u e => ?_, fun j k b h1 h2 => r.inj j k b ((at_ j b).mp h1) ((at_ k b).mp h2), fun b h => r.own b ((ow_ b).mp h), fun j e q => ?_, fun j e q => ?_, fun b e => (at_ 0 b).mpr (r.lent b e), fun b q => ?_, fun b q => False.elim q, r.bf⟩, eg⟩
  · rw [upd_ne]
    · exact r.fix b u e
    · rintro rfl
      rw [F0] at e; cases e
  · rw [eg]
    rcases get_set q with ⟨e1, e2⟩ | ⟨e1, e2⟩
    · cases e2
    · exact r.im j e e2
  · rw [eg]
    rcases get_set q with ⟨e1, e2⟩ | ⟨e1, e2⟩
    · cases e2
      exact ⟨a, by rw [e1]; exact hv, o', upd_same, h⟩
    · obtain ⟨b, e3, u, e4, e5⟩ := r.ow j e e2
      refine ⟨b, e3, u, ?_, e5⟩
      rw [upd_ne]
      · exact e4
      · rintro rfl
        exact e1 (r.inj j i b ⟨⟨e, e2⟩, e3⟩ ⟨⟨d, hd⟩, hv⟩)
  · by_cases z : b = a
    · rw [z]; exact ⟨o', upd_same⟩
    · obtain ⟨u, e⟩ := r.bd b q
      exact ⟨u, by rw [upd_ne z]; exact e⟩
end
end EL

set_option Elab.async false
set_option linter.all false
set_option maxRecDepth 100000
/-! outcomes, readings -/
namespace EL
open PySem PySem.Spec PyProof.Rows L2

/-- what an expression gives: data, a look at a slot, a new list or dict -/
inductive Rv where
  | im (d : D) | pk (i : Nat) | fr (d : D)
  deriving Inhabited
inductive Oc (α : Type) where
  | ok (a : α) (δ : Ds) | ex (c : Nat) (δ : Ds) | bad
def Oc.bind {α β : Type} (o : Oc α) (f : α → Ds → Oc β) : Oc β := match o with
  | .ok a δ => f a δ
  | .ex c δ => .ex c δ
  | .bad => .bad
def Rv.seen : Rv → Rv
  | .fr d => .im d
  | r => r
/-- what is to be read of a value -/
def look (r : Rv) (δ : Ds) : Option D := match r with
  | .im d => some d
  | .fr d => some d
  | .pk i => match δ[i]? with
    | some (.ow d) => some d
    | some (.im d) => some d
    | _ => none
/-- a value's data for good -/
def froz (lt : Bool) (r : Rv) (δ : Ds) : Oc D := match r with
  | .im d => .ok d δ
  | .fr d => .ok d δ
  | .pk i => match δ[i]? with
    | some (.ow d) => if lt && i == 0 then .bad else .ok d (δ.set i (.im d))
    | some (.im d) => .ok d δ
    | _ => .bad

abbrev Wx := L2.St → Nat → Hp → Prop

section
variable (Φ : Fr) (E : Wx) (σ : L2.St)
def ResOk (G0 : Hp) (r : Rv) (δ : Ds) (v : V) (H : Hp) : Prop := match r with
  | .im d => Rl Φ X0 δ σ H ∧ Gr G0 (gG Φ X0 δ σ H) ∧ Rep Φ.R (gG Φ X0 δ σ H) d v
  | .pk i => Rl Φ X0 δ σ H ∧ Gr G0 (gG Φ X0 δ σ H) ∧ σ[i]? = some (some v)
  | .fr d => ∃ a, v = .ref a ∧ Rl Φ (X1 a) δ σ H ∧ Gr G0 (gG Φ (X1 a) δ σ H) ∧ At Φ.R (gG Φ (X1 a) δ σ H) H a d
def PostE (G0 : Hp) (o : Oc Rv) (Q : VK) : Prop := match o with
  | .bad => False
  | .ex c δ => ∀ H, Rl Φ X0 δ σ H → E σ c H
  | .ok r δ => ∀ v H, ResOk Φ σ G0 r δ v H → Q v H
def PostB (G0 : Hp) (o : Oc Bool) (Q : Bool → Hp → Prop) : Prop := match o with
  | .bad => False
  | .ex c δ => ∀ H, Rl Φ X0 δ σ H → E σ c H
  | .ok b δ => ∀ H, Rl Φ X0 δ σ H → Gr G0 (gG Φ X0 δ σ H) → Q b H
/-- a value that stands -/
def ValOk (δ : Ds) (H : Hp) (r : Rv) (v : V) : Prop := match r with
  | .im d => Rep Φ.R (gG Φ X0 δ σ H) d v
  | .pk i => σ[i]? = some (some v)
  | .fr _ => False
end
section
variable {Φ : Fr} {E : Wx} {σ : L2.St} {G0 G1 : Hp} {δ δ1 : Ds} {H H1 : Hp} {r : Rv} {v : V}
theorem ResOk.weak (g : Gr G0 G1) (h : ResOk Φ σ G1 r δ v H) : ResOk Φ σ G0 r δ v H := by
  cases r with
  | im d => exact ⟨h.1, g.trans h.2.1, h.2.2⟩
  | pk i => exact ⟨h.1, g.trans h.2.1, h.2.2⟩
  | fr d =>
    obtain ⟨a, e, h1, h2, h3⟩ := h
    exact ⟨a, e, h1, g.trans h2, h3⟩
theorem PostE.weak {o : Oc Rv} {Q : VK} (g : Gr G0 G1) (h : PostE Φ E σ G0 o Q) : PostE Φ E σ G1 o Q := by
  cases o with
  | ok r δ => exact fun v H k => h v H (k.weak g)
  | ex c δ => exact h
  | bad => exact h
theorem PostB.weak {o : Oc Bool} {Q : Bool → Hp → Prop} (g : Gr G0 G1) (h : PostB Φ E σ G0 o Q) : PostB Φ E σ G1 o Q := by
  cases o with
  | ok r δ => exact fun H r k => h H r (g.trans k)
  | ex c δ => exact h
  | bad => exact h
theorem ResOk.rl (h : ResOk Φ σ G0 r δ v H) : Rl Φ X0 δ σ H ∧ Gr G0 (gG Φ X0 δ σ H) ∧ ValOk Φ σ δ H r.seen v := by
  cases r with
  | im d => exact ⟨h.1, h.2.1, h.2.2⟩
  | pk i => exact ⟨h.1, h.2.1, h.2.2⟩
  | fr d =>
    obtain ⟨a, e, h1, h2, h3⟩ := h
    obtain ⟨h4, h5⟩ := h1.thaw
    subst e
    exact ⟨h4, h2.trans h5, h1.thaw1 h3⟩
/-- the data of a value, in the whole heap -/
theorem ValOk.full {d : D} (R : Rl Φ X0 δ σ H) (h : ValOk Φ σ δ H r v) (e : look r δ = some d) : Rep Φ.R H d v := by
  cases r with
  | im d' =>
    cases e
    have h' : Rep Φ.R (gG Φ X0 δ σ H) d v := h
    exact h'.mono (hid_le _ _)
  | fr d' => exact h.elim
  | pk i =>
    have h1 : σ[i]? = some (some v) := h
    simp only [look] at e
    split at e
    · rename_i d' q
      cases e
      obtain ⟨a, e1, o, e2, e3⟩ := R.ow i d q
      rw [h1] at e1
      cases e1
      exact (e3.mono (hid_le _ _)).rep (.inl e2)
    · rename_i d' q
      cases e
      obtain ⟨w, e1, e2⟩ := R.im i d q
      rw [h1] at e1
      cases e1
      exact e2.mono (hid_le _ _)
    · cases e
theorem hl_of {lt : Bool} {i : Nat} (hl : Φ.L.isSome = lt) (h : (lt && i == 0) = false) : Φ.L = none ∨ i ≠ 0 := by
  cases hL : Φ.L with
  | none => exact .inl rfl
  | some a =>
    right
    rintro rfl
    rw [hL] at hl
    rw [← hl] at h
    cases h
/-- the data of a value for good -/
theorem ValOk.froz {d : D} {lt : Bool} (hl : Φ.L.isSome = lt) (R : Rl Φ X0 δ σ H) (h : ValOk Φ σ δ H r v) (e : froz lt r δ = .ok d δ1) :
    Rl Φ X0 δ1 σ H ∧ Gr (gG Φ X0 δ σ H) (gG Φ X0 δ1 σ H) ∧ Rep Φ.R (gG Φ X0 δ1 σ H) d v := by
  cases r with
  | im d' =>
    cases e
    exact ⟨R, Gr.refl _, h⟩
  | fr d' => exact h.elim
  | pk i =>
    have h1 : σ[i]? = some (some v) := h
    simp only [EL.froz] at e
    split at e
    · rename_i d' q
      split at e
      · cases e
      · rename_i hn
        cases e
        exact R.freeze (hl_of hl (by simpa using hn)) q h1
    · rename_i d' q
      cases e
      obtain ⟨w, e1, e2⟩ := R.im i d q
      rw [h1] at e1
      cases e1
      exact ⟨R, Gr.refl _, e2⟩
    · cases e
end

/-- an expression's reading by its function on slots -/
def rdE (R : RC) (lt : Bool) (E : Wx) (f : Ds → Oc Rv) : TE := fun σ H Q => ∃ Φ δ, Φ.R = R ∧ Φ.L.isSome = lt ∧ Rl Φ X0 δ σ H ∧ PostE Φ E σ (gG Φ X0 δ σ H) (f δ) Q
def rdT (R : RC) (lt : Bool) (E : Wx) (f : Ds → Oc Bool) : TT := fun σ H Q => ∃ Φ δ, Φ.R = R ∧ Φ.L.isSome = lt ∧ Rl Φ X0 δ σ H ∧ PostB Φ E σ (gG Φ X0 δ σ H) (f δ) Q

theorem PE.imp {X : Cx} {e : Expr} {t t' : TE} (h : PE X e t) (w : ∀ σ H Q, t' σ H Q → t σ H Q) : PE X e t' := ⟨fun pins s σ H Q I q => h.run pins s σ H Q I (w σ H Q q)⟩
theorem PT.imp {X : Cx} {e : Expr} {t t' : TT} (h : PT X e t) (w : ∀ σ H Q, t' σ H Q → t σ H Q) : PT X e t' := ⟨fun pins s σ H Q I q => h.run pins s σ H Q I (w σ H Q q)⟩
theorem PW.imp {X : Cx} {e : Expr} {t t' : TT} (h : PW X e t) (w : ∀ σ H Q, t' σ H Q → t σ H Q) : PW X e t' := ⟨fun u pins s σ H Q I q => h.run u pins s σ H Q I (w σ H Q q)⟩
theorem PA.imp {X : Cx} {e : List Expr} {t t' : TA} (h : PA X e t) (w : ∀ σ H Q, t' σ H Q → t σ H Q) : PA X e t' := ⟨fun pos pins s σ H Q I q => h.run pos pins s σ H Q I (w σ H Q q)⟩
theorem PS.imp {X : Cx} {e : Stmt} {t t' : TS} (h : PS X e t) (w : ∀ D σ H, t' D σ H → t D σ H) : PS X e t' := ⟨fun pins s σ H D I q => h.run pins s σ H D I (w D σ H q)⟩
theorem PSs.imp {X : Cx} {e : List Stmt} {t t' : TS} (h : PSs X e t) (w : ∀ D σ H, t' D σ H → t D σ H) : PSs X e t' := ⟨fun pins s σ H D I q => h.run pins s σ H D I (w D σ H q)⟩

section
variable {R : RC} {lt : Bool} {E : Wx} {σ : L2.St} {H : Hp} {Q : VK}
/-- one operand -/
def ev1 (fa : Ds → Oc Rv) (k : Rv → Ds → Oc Rv) : Ds → Oc Rv := fun δ => (fa δ).bind fun r δ1 => k r.seen δ1
/-- what an operand leaves: st1 -/
def St1 (R : RC) (lt : Bool) (E : Wx) (σ : L2.St) (k : Rv → Ds → Oc Rv) (x : V) (H : Hp) (Q : VK) : Prop :=
  ∃ Φ δ r, Φ.R = R ∧ Φ.L.isSome = lt ∧ Rl Φ X0 δ σ H ∧ ValOk Φ σ δ H r x ∧ PostE Φ E σ (gG Φ X0 δ σ H) (k r δ) Q
theorem rd1 {fa : Ds → Oc Rv} {k : Rv → Ds → Oc Rv} {Q1 : VK} (h : rdE R lt E (ev1 fa k) σ H Q) (hq : ∀ x H1, St1 R lt E σ k x H1 Q → Q1 x H1) : rdE R lt E fa σ H Q1 := by
  obtain ⟨Φ, δ, e1, e2, r0, p⟩ := h
  refine ⟨Φ, δ, e1, e2, r0, ?_⟩
  unfold ev1 at p
  cases hf : fa δ with
  | bad => rw [hf] at p; exact p
  | ex c δ1 => rw [hf] at p; exact p
  | ok r δ1 =>
    rw [hf] at p
    intro v H1 ok
    obtain ⟨r1, g1, v1⟩ := ok.rl
    exact hq v H1 ⟨Φ, δ1, r.seen, e1, e2, r1, v1, PostE.weak g1 p⟩
def ev2 (fa fb : Ds → Oc Rv) (k : Rv → Rv → Ds → Oc Rv) : Ds → Oc Rv := fun δ => (fa δ).bind fun r δ1 => (fb δ1).bind fun u δ2 => k r.seen u.seen δ2
def St2 (R : RC) (lt : Bool) (E : Wx) (σ : L2.St) (k : Rv → Rv → Ds → Oc Rv) (x y : V) (H : Hp) (Q : VK) : Prop :=
  ∃ Φ δ r u, Φ.R = R ∧ Φ.L.isSome = lt ∧ Rl Φ X0 δ σ H ∧ ValOk Φ σ δ H r x ∧ ValOk Φ σ δ H u y ∧ PostE Φ E σ (gG Φ X0 δ σ H) (k r u δ) Q
theorem ValOk.step {Φ : Fr} {δ δ1 : Ds} {H H1 : Hp} {r : Rv} {v : V} (h : ValOk Φ σ δ H r v) (g : Gr (gG Φ X0 δ σ H) (gG Φ X0 δ1 σ H1)) : ValOk Φ σ δ1 H1 r v := by
  cases r with
  | im d =>
    have h' : Rep Φ.R (gG Φ X0 δ σ H) d v := h
    exact h'.mono g
  | fr d => exact h
  | pk i => exact h
theorem rd2 {fa fb : Ds → Oc Rv} {k : Rv → Rv → Ds → Oc Rv} {Q1 : V → V → Hp → Prop} (h : rdE R lt E (ev2 fa fb k) σ H Q) (hq : ∀ x y H1, St2 R lt E σ k x y H1 Q → Q1 x y H1) :
    rdE R lt E fa σ H fun x H1 => rdE R lt E fb σ H1 fun y H2 => Q1 x y H2 := by
  obtain ⟨Φ, δ, e1, e2, r0, p⟩ := h
  refine ⟨Φ, δ, e1, e2, r0, ?_⟩
  unfold ev2 at p
  cases hf : fa δ with
  | bad => rw [hf] at p; exact p
  | ex c δ1 => rw [hf] at p; exact p
  | ok r δ1 =>
    rw [hf] at p
    intro v H1 ok
    obtain ⟨r1, g1, v1⟩ := ok.rl
    refine ⟨Φ, δ1, e1, e2, r1, ?_⟩
    have p := PostE.weak g1 p
    simp only [Oc.bind] at p
    cases hg : fb δ1 with
    | bad => rw [hg] at p; exact p
    | ex c δ2 => rw [hg] at p; exact p
    | ok u δ2 =>
      rw [hg] at p
      intro y H2 ok2
      obtain ⟨r2, g2, v2⟩ := ok2.rl
      exact hq v y H2 ⟨Φ, δ2, r.seen, u.seen, e1, e2, r2, v1.step g2, v2, PostE.weak g2 p⟩
end
end EL

set_option Elab.async false
set_option linter.all false
set_option maxRecDepth 100000
/-! operations on data -/
namespace EL
open PySem PySem.Spec PyProof.Rows L2

def rc (X : Cx) (ad : Nat → Addr) : RC := ⟨X.prog, X.w, X.K, ad⟩

section
variable {Φ : Fr} {E : Wx} {σ : L2.St} {δ : Ds} {H : Hp} {G0 : Hp} {r : Rv} {v : V} {Q : VK}
/-- a scalar is told -/
theorem post_sc {d : D} (R : Rl Φ X0 δ σ H) (p : PostE Φ E σ (gG Φ X0 δ σ H) (.ok (.im d) δ) Q) {v : V} (h : scV d = some v) : Q v H :=
  p v H ⟨R, Gr.refl _, Rep.sc h⟩
/-- data that stand are told -/
theorem post_im {d : D} (R : Rl Φ X0 δ σ H) (p : PostE Φ E σ (gG Φ X0 δ σ H) (.ok (.im d) δ) Q) {v : V} (h : Rep Φ.R (gG Φ X0 δ σ H) d v) : Q v H :=
  p v H ⟨R, Gr.refl _, h⟩
/-- a new tuple is told -/
theorem post_tup {ds : List D} {vs : List V} (R : Rl Φ X0 δ σ H) (p : PostE Φ E σ (gG Φ X0 δ σ H) (.ok (.im (.tup ds)) δ) Q) (h : Reps Φ.R (gG Φ X0 δ σ H) ds vs) {a : Addr} (hn : H a = none) :
    Q (.ref a) (upd H a (.tup vs)) := by
  obtain ⟨r1, g1, s1⟩ := R.alloc (o := .tup vs) hn
  refine p _ _ ⟨r1, g1, ?_⟩
  rw [Rep.tup_iff]
  exact ⟨a, vs, rfl, .inl (.inl s1), h.mono g1⟩
/-- a new list is told -/
theorem post_lst {ds : List D} {vs : List V} (R : Rl Φ X0 δ σ H) (p : PostE Φ E σ (gG Φ X0 δ σ H) (.ok (.fr (.lst ds)) δ) Q) (h : Reps Φ.R (gG Φ X0 δ σ H) ds vs) {a : Addr} (hn : H a = none) :
    Q (.ref a) (upd H a (.lst vs)) := by
  obtain ⟨r1, g1⟩ := R.temp (o := .lst vs) hn
  exact p _ _ ⟨a, rfl, r1, g1, .lst vs, upd_same, vs, rfl, h.mono g1⟩
/-- the items of a list that is looked at -/
theorem ValOk.lst {ds : List D} (R : Rl Φ X0 δ σ H) (h : ValOk Φ σ δ H r v) (e : look r δ = some (.lst ds)) : ∃ a vs, v = .ref a ∧ SqL Φ.R.K H a vs ∧ Reps Φ.R (gG Φ X0 δ σ H) ds vs := by
  have im_ : ∀ w, Rep Φ.R (gG Φ X0 δ σ H) (.lst ds) w → ∃ a vs, w = .ref a ∧ SqL Φ.R.K H a vs ∧ Reps Φ.R (gG Φ X0 δ σ H) ds vs := fun w q => by
    rw [Rep.lst_iff] at q
    obtain ⟨a, vs, e1, e2, e3⟩ := q
    exact ⟨a, vs, e1, (hid_le _ _).sqL e2, e3⟩
  cases r with
  | im d' =>
    cases e
    exact im_ _ h
  | fr d' => exact h.elim
  | pk i =>
    have h1 : σ[i]? = some (some v) := h
    simp only [look] at e
    split at e
    · rename_i d' q
      cases e
      obtain ⟨a, e1, o, e2, vs, e3, e4⟩ := R.ow i _ q
      rw [h1] at e1
      cases e1
      subst e3
      exact ⟨a, vs, rfl, .inl (.inl e2), e4⟩
    · rename_i d' q
      cases e
      obtain ⟨w, e1, e2⟩ := R.im i _ q
      rw [h1] at e1
      cases e1
      exact im_ _ e2
    · cases e
theorem ValOk.tup {ds : List D} (R : Rl Φ X0 δ σ H) (h : ValOk Φ σ δ H r v) (e : look r δ = some (.tup ds)) : ∃ a vs, v = .ref a ∧ SqT Φ.R.K (gG Φ X0 δ σ H) a vs ∧ Reps Φ.R (gG Φ X0 δ σ H) ds vs := by
  cases r with
  | im d' =>
    cases e
    have h' : Rep Φ.R (gG Φ X0 δ σ H) (.tup ds) v := h
    rwa [Rep.tup_iff] at h'
  | fr d' => exact h.elim
  | pk i =>
    have h1 : σ[i]? = some (some v) := h
    simp only [look] at e
    split at e
    · rename_i d' q
      cases e
      obtain ⟨a, e1, o, e2, e3⟩ := R.ow i _ q
      exact e3.elim
    · rename_i d' q
      cases e
      obtain ⟨w, e1, e2⟩ := R.im i _ q
      rw [h1] at e1
      cases e1
      rwa [Rep.tup_iff] at e2
    · cases e
theorem gT {K : PySem.W.Frag} {S : Addr → Prop} {H : Hp} {a : Addr} {vs : List V} (h : SqT K (hid H S) a vs) : SqT K H a vs := (hid_le _ _).sqT h
end

/-- a scalar out of two data -/
def k2 (f : D → D → Option D) : Rv → Rv → Ds → Oc Rv := fun ra rb δ => match look ra δ, look rb δ with
  | some a, some b => (match f a b with
    | some d => .ok (.im d) δ
    | none => .bad)
  | _, _ => .bad
def k1 (f : D → Option D) : Rv → Ds → Oc Rv := fun ra δ => match look ra δ with
  | some a => (match f a with
    | some d => .ok (.im d) δ
    | none => .bad)
  | none => .bad
section
variable {R : RC} {lt : Bool} {E : Wx} {σ : L2.St} {H : Hp} {Q : VK} {x y : V}
theorem st2_sc {f : D → D → Option D} (h : St2 R lt E σ (k2 f) x y H Q) : ∃ a b d, Rep R H a x ∧ Rep R H b y ∧ f a b = some d ∧ ∀ v, scV d = some v → Q v H := by
  obtain ⟨Φ, δ, r, u, rfl, e2, R0, v1, v2, p⟩ := h
  unfold k2 at p
  split at p
  · rename_i a b ea eb
    split at p
    · rename_i d ef
      exact ⟨a, b, d, v1.full R0 ea, v2.full R0 eb, ef, fun v hv => post_sc R0 p hv⟩
    · exact p.elim
  · exact p.elim
theorem st1_sc {f : D → Option D} (h : St1 R lt E σ (k1 f) x H Q) : ∃ a d, Rep R H a x ∧ f a = some d ∧ ∀ v, scV d = some v → Q v H := by
  obtain ⟨Φ, δ, r, rfl, e2, R0, v1, p⟩ := h
  unfold k1 at p
  split at p
  · rename_i a ea
    split at p
    · rename_i d ef
      exact ⟨a, d, v1.full R0 ea, ef, fun v hv => post_sc R0 p hv⟩
    · exact p.elim
  · exact p.elim
end

/-! ### ints -/
def small64i (i : Int) : Bool := decide (-(2 ^ 64) < i) && decide (i < 2 ^ 64)
def dSub : D → D → Option D
  | .int i, .int j => some (.int (i - j))
  | _, _ => none
def dMul : D → D → Option D
  | .int i, .int j => if small64i i || small64i j then some (.int (i * j)) else none
  | _, _ => none
def dFdiv : D → D → Option D
  | .int i, .int j => if decide (0 < j) && decide (j < 2 ^ 64) then some (.int (i / j)) else none
  | _, _ => none
def dMod : D → D → Option D
  | .int i, .int j => if decide (0 < j) then some (.int (i % j)) else none
  | _, _ => none
def dPow : D → D → Option D
  | .int i, .int j => if decide (0 ≤ j) && decide (j ≤ 1000000) && small64i i then some (.int (i ^ j.toNat)) else none
  | _, _ => none
def dShl : D → D → Option D
  | .int i, .int j => if decide (0 ≤ j) && decide (j ≤ 1000000) && small64i i then some (.int (i * 2 ^ j.toNat)) else none
  | _, _ => none
def dShr : D → D → Option D
  | .int i, .int j => if decide (0 ≤ j) then some (.int (i / 2 ^ j.toNat)) else none
  | _, _ => none
def dAnd : D → D → Option D
  | .int i, .int j => some (.int (Builtin.bitAnd i j))
  | _, _ => none
def dNeg : D → Option D
  | .int i => some (.int (-i))
  | _ => none

theorem int2 {R : RC} {H : Hp} {i j : Int} {x y : V} (h : Rep R H (.int i) x) (k : Rep R H (.int j) y) : x = .int i ∧ y = .int j := ⟨Rep.int_iff.mp h, Rep.int_iff.mp k⟩
section
variable {X : Cx} {ad : Nat → Addr} {lt : Bool} {E : Wx} {σ : L2.St} {H : Hp} {Q : VK} {x y : V}
theorem natAbs_lt64 {i : Int} (h : small64i i = true) : i.natAbs < 2 ^ 64 := by
  simp only [small64i, Bool.and_eq_true, decide_eq_true_eq] at h
  omega
theorem small64_of {i : Int} (h : small64i i = true) : -(2 ^ 64) < i ∧ i < 2 ^ 64 := by
  simp only [small64i, Bool.and_eq_true, decide_eq_true_eq] at h
  exact h
theorem wide64 {j : Int} (h0 : 0 < j) (h : j < 2 ^ 64) : CDivW i j := wide_div h0 (b := 64) (by omega) (by decide) (by decide)

theorem s_sub (h : St2 (rc X ad) lt E σ (k2 dSub) x y H Q) : rI0 (fun i j => .int (i - j)) x y H Q := by
  obtain ⟨a, b, d, r1, r2, e, q⟩ := st2_sc h
  unfold dSub at e
  split at e
  · cases e
    obtain ⟨rfl, rfl⟩ := int2 r1 r2
    exact ⟨_, _, rfl, rfl, q _ rfl⟩
  · cases e
theorem s_mul (h : St2 (rc X ad) lt E σ (k2 dMul) x y H Q) : rI CMul (fun i j => .int (i * j)) x y H Q := by
  obtain ⟨a, b, d, r1, r2, e, q⟩ := st2_sc h
  unfold dMul at e
  split at e
  · split at e
    · rename_i hc
      cases e
      obtain ⟨rfl, rfl⟩ := int2 r1 r2
      refine ⟨_, _, rfl, rfl, ?_, q _ rfl⟩
      rw [Bool.or_eq_true] at hc
      rcases hc with hc | hc
      · exact .inl (small64_of hc)
      · exact .inr (small64_of hc)
    · cases e
  · cases e
theorem s_fdiv (h : St2 (rc X ad) lt E σ (k2 dFdiv) x y H Q) : rI CDivW (fun i j => .int (i / j)) x y H Q := by
  obtain ⟨a, b, d, r1, r2, e, q⟩ := st2_sc h
  unfold dFdiv at e
  split at e
  · split at e
    · rename_i hc
      cases e
      obtain ⟨rfl, rfl⟩ := int2 r1 r2
      simp only [Bool.and_eq_true, decide_eq_true_eq] at hc
      exact ⟨_, _, rfl, rfl, wide64 hc.1 hc.2, q _ rfl⟩
    · cases e
  · cases e
theorem s_mod (h : St2 (rc X ad) lt E σ (k2 dMod) x y H Q) : rI (fun _ j => 0 < j) (fun i j => .int (i % j)) x y H Q := by
  obtain ⟨a, b, d, r1, r2, e, q⟩ := st2_sc h
  unfold dMod at e
  split at e
  · split at e
    · rename_i hc
      cases e
      obtain ⟨rfl, rfl⟩ := int2 r1 r2
      exact ⟨_, _, rfl, rfl, of_decide_eq_true hc, q _ rfl⟩
    · cases e
  · cases e
theorem cpow_of {i j : Int} (hc : (decide (0 ≤ j) && decide (j ≤ 1000000) && small64i i) = true) : CPow i j := by
  simp only [Bool.and_eq_true, decide_eq_true_eq] at hc
  exact ⟨hc.1.1, hc.1.2, natAbs_lt64 hc.2⟩
theorem s_pow (h : St2 (rc X ad) lt E σ (k2 dPow) x y H Q) : rI CPow (fun i j => .int (i ^ j.toNat)) x y H Q := by
  obtain ⟨a, b, d, r1, r2, e, q⟩ := st2_sc h
  unfold dPow at e
  split at e
  · split at e
    · rename_i hc
      cases e
      obtain ⟨rfl, rfl⟩ := int2 r1 r2
      exact ⟨_, _, rfl, rfl, cpow_of hc, q _ rfl⟩
    · cases e
  · cases e
theorem s_shl (h : St2 (rc X ad) lt E σ (k2 dShl) x y H Q) : rI CPow (fun i j => .int (i * 2 ^ j.toNat)) x y H Q := by
  obtain ⟨a, b, d, r1, r2, e, q⟩ := st2_sc h
  unfold dShl at e
  split at e
  · split at e
    · rename_i hc
      cases e
      obtain ⟨rfl, rfl⟩ := int2 r1 r2
      exact ⟨_, _, rfl, rfl, cpow_of hc, q _ rfl⟩
    · cases e
  · cases e
theorem s_shr (h : St2 (rc X ad) lt E σ (k2 dShr) x y H Q) : rI (fun _ j => 0 ≤ j) (fun i j => .int (i / 2 ^ j.toNat)) x y H Q := by
  obtain ⟨a, b, d, r1, r2, e, q⟩ := st2_sc h
  unfold dShr at e
  split at e
  · split at e
    · rename_i hc
      cases e
      obtain ⟨rfl, rfl⟩ := int2 r1 r2
      exact ⟨_, _, rfl, rfl, of_decide_eq_true hc, q _ rfl⟩
    · cases e
  · cases e
theorem s_and (h : St2 (rc X ad) lt E σ (k2 dAnd) x y H Q) : rI0 (fun i j => .int (Builtin.bitAnd i j)) x y H Q := by
  obtain ⟨a, b, d, r1, r2, e, q⟩ := st2_sc h
  unfold dAnd at e
  split at e
  · cases e
    obtain ⟨rfl, rfl⟩ := int2 r1 r2
    exact ⟨_, _, rfl, rfl, q _ rfl⟩
  · cases e
theorem s_neg (h : St1 (rc X ad) lt E σ (k1 dNeg) x H Q) : rU (fun i => .int (-i)) x H Q := by
  obtain ⟨a, d, r1, e, q⟩ := st1_sc h
  unfold dNeg at e
  split at e
  · cases e
    obtain rfl := Rep.int_iff.mp r1
    exact ⟨_, rfl, q _ rfl⟩
  · cases e
end

/-! ### + of ints, texts, tuples, lists -/
def kAdd : Rv → Rv → Ds → Oc Rv := fun ra rb δ => match look ra δ, look rb δ with
  | some (.int i), some (.int j) => .ok (.im (.int (i + j))) δ
  | some (.str i), some (.str j) => if decide (i.length + j.length ≤ sizeLine) then .ok (.im (.str (i ++ j))) δ else .bad
  | some (.tup a), some (.tup b) => if decide (a.length + b.length ≤ sizeLine) then .ok (.im (.tup (a ++ b))) δ else .bad
  | some (.lst a), some (.lst b) => if decide (a.length + b.length ≤ sizeLine) then .ok (.fr (.lst (a ++ b))) δ else .bad
  | _, _ => .bad
section
variable {X : Cx} {ad : Nat → Addr} {lt : Bool} {E : Wx} {σ : L2.St} {H : Hp} {Q : VK} {x y : V}
def rCatL (K : PySem.W.Frag) : R2 := fun x y H Q => ∃ l b xs zs, x = .ref l ∧ y = .ref b ∧ SqL K H l xs ∧ SqL K H b zs ∧ xs.length + zs.length ≤ sizeLine ∧ ∀ p, H p = none → Q (.ref p) (upd H p (.lst (xs ++ zs)))
theorem op_catL : OpR X (binaryOp .Add) (rCatL X.K) := by
  intro pins s σ H x y v u Q I rx ry h
  obtain ⟨l, b, xs, zs, rfl, rfl, hH, hB, hz, q⟩ := h
  cases rx
  cases ry
  obtain ⟨its, r, ⟨⟨c1, d1, t1, s1⟩, n1, ho1, hc1, hd1, ht1⟩, z1⟩ := I.list hH
  obtain ⟨its2, r2, ⟨⟨c2, d2, t2, s2⟩, n2, ho2, hc2, hd2, ht2⟩, z2⟩ := I.list hB
  have hl := r.length
  have hl2 := r2.length
  simp only at hc1 hd1 ht1 hc2 hd2 ht2
  subst hc1 hd1 ht1 hc2 hd2 ht2
  have hsz : its.toArray.size + its2.toArray.size ≤ sizeLine := by
    have e1 : its.toArray.size = its.length := List.size_toArray ..
    have e2 : its2.toArray.size = its2.length := List.size_toArray ..
    omega
  refine concat_meets ⟨_, ho1, rfl⟩ ⟨_, ho2, rfl⟩ noFill_list_add seq_list_add PySem.F.slot_list_add PySem.F.entry_list_add (PySem.F.args_list_add_2 _ _)
    (list_addW l b its.toArray its2.toArray n1 n2 none none s1 s2 hsz) ⟨ho1, ho2, ?_⟩
  have ea : its.toArray ++ its2.toArray = (its ++ its2).toArray := by simp
  rw [ea]
  exact ⟨.ref _, _, I.lnew (t' := s.toks) (r.append r2) (by rw [List.length_append]; omega), rfl, q _ I.fresh⟩
def rAdd4 (K : PySem.W.Frag) : R2 := fun x y H Q => rI0 (fun i j => .int (i + j)) x y H Q ∨ (∃ i j, x = .str i ∧ y = .str j ∧ i.length + j.length ≤ sizeLine ∧ Q (.str (i ++ j)) H) ∨ rCatA K x y H Q ∨ rCatL K x y H Q
theorem op_add4 : OpR X (binaryOp .Add) (rAdd4 X.K) := op_add.or (op_add_str.or (op_catA.or op_catL))
theorem s_add (h : St2 (rc X ad) lt E σ kAdd x y H Q) : rAdd4 X.K x y H Q := by
  obtain ⟨Φ, δ, r, u, e1, e2, R0, v1, v2, p⟩ := h
  have eK : Φ.R.K = X.K := by rw [e1]; rfl
  unfold kAdd at p
  split at p
  · rename_i i j ea eb
    have h1 := Rep.int_iff.mp (v1.full R0 ea)
    have h2 := Rep.int_iff.mp (v2.full R0 eb)
    exact .inl ⟨_, _, h1, h2, post_sc R0 p rfl⟩
  · rename_i i j ea eb
    have h1 := Rep.str_iff.mp (v1.full R0 ea)
    have h2 := Rep.str_iff.mp (v2.full R0 eb)
    split at p
    · rename_i hz
      exact .inr (.inl ⟨_, _, h1, h2, of_decide_eq_true hz, post_sc R0 p rfl⟩)
    · exact p.elim
  · rename_i ds es ea eb
    obtain ⟨a, vs, h1, h2, h3⟩ := v1.tup R0 ea
    obtain ⟨b, us, k1, k2, k3⟩ := v2.tup R0 eb
    split at p
    · rename_i hz
      have hz := of_decide_eq_true hz
      have l1 := h3.length
      have l2 := k3.length
      refine .inr (.inr (.inl ⟨a, b, vs, us, h1, k1, eK ▸ gT h2, eK ▸ gT k2, by omega, fun e => ?_, fun _ e => ?_, fun _ _ q hq => ?_⟩))
      · subst e
        have : ds = [] := List.eq_nil_of_length_eq_zero (by rw [l1]; rfl)
        subst this
        exact post_im R0 p (Rep.tup_iff.mpr ⟨b, us, rfl, k2, k3⟩)
      · subst e
        have : es = [] := List.eq_nil_of_length_eq_zero (by rw [l2]; rfl)
        subst this
        rw [List.append_nil] at p
        exact post_im R0 p (Rep.tup_iff.mpr ⟨a, vs, rfl, h2, h3⟩)
      · exact post_tup R0 p (h3.append k3) hq
    · exact p.elim
  · rename_i ds es ea eb
    obtain ⟨a, vs, h1, h2, h3⟩ := v1.lst R0 ea
    obtain ⟨b, us, k1, k2, k3⟩ := v2.lst R0 eb
    split at p
    · rename_i hz
      have hz := of_decide_eq_true hz
      have l1 := h3.length
      have l2 := k3.length
      exact .inr (.inr (.inr ⟨a, b, vs, us, h1, k1, eK ▸ h2, eK ▸ k2, by omega, fun q hq => post_lst R0 p (h3.append k3) hq⟩))
    · exact p.elim
  · exact p.elim
end
end EL

set_option Elab.async false
set_option linter.all false
set_option maxRecDepth 100000
/-! the small language and its evaluator -/
namespace EL
open PySem PySem.Spec PyProof.Rows L2

/-! ### equality, order, membership of data -/
mutual
def toP : D → PyData
  | .non => .none
  | .bl b => .bool b
  | .int i => .int i
  | .str x => .str x
  | .obj _ => .dict []
  | .ty _ => .dict []
  | .tup ds => .tuple (toPs ds)
  | .lst ds => .list (toPs ds)
  | .dic _ _ => .dict []
  | .ins _ _ => .dict []
def toPs : List D → List PyData
  | [] => []
  | d :: ds => toP d :: toPs ds
end
mutual
def deq : D → D → Bool
  | .non, .non => true
  | .bl a, .bl b => a == b
  | .bl a, .int j => (if a then 1 else 0) == j
  | .int i, .bl b => i == (if b then 1 else 0)
  | .int i, .int j => i == j
  | .str x, .str y => x == y
  | .lst xs, .lst ys => deqs xs ys
  | .tup xs, .tup ys => deqs xs ys
  | _, _ => false
def deqs : List D → List D → Bool
  | [], [] => true
  | x :: xs, y :: ys => deq x y && deqs xs ys
  | _, _ => false
end
mutual
/-- data that == takes: its depth -/
def layD : D → Bool
  | .non => true
  | .bl _ => true
  | .int _ => true
  | .str x => x.cps.all (· < 0x110000)
  | .tup ds => layDs ds
  | .lst ds => layDs ds
  | _ => false
def layDs : List D → Bool
  | [] => true
  | d :: ds => layD d && layDs ds
end
mutual
def depD : D → Nat
  | .tup ds => depDs ds + 1
  | .lst ds => depDs ds + 1
  | _ => 0
def depDs : List D → Nat
  | [] => 0
  | d :: ds => max (depD d) (depDs ds)
end
def eqOk (d : D) : Bool := layD d && decide (depD d ≤ 60)
def dmem (x : D) (ds : List D) : Bool := ds.any fun z => deq z x
mutual
/-- <, where it is told -/
def dlt : D → D → Option Bool
  | .int i, .int j => some (decide (i < j))
  | .str x, .str y => some (decide (x.cps.toList < y.cps.toList))
  | .tup xs, .tup ys => dlts xs ys
  | _, _ => none
def dlts : List D → List D → Option Bool
  | [], [] => some false
  | [], _ :: _ => some true
  | _ :: _, [] => some false
  | x :: xs, y :: ys => if deq x y then dlts xs ys else dlt x y
end
/-- keys of the two sorts: an int or a text, a tuple of such -/
def skey : D → Option Key
  | .int i => some (.inl i)
  | .str x => some (.inr x)
  | _ => none
def skeys : List D → Option (List Key)
  | [] => some []
  | d :: r => match skey d, skeys r with
    | some k, some ks => some (k :: ks)
    | _, _ => none
def tkey : D → Option (List Key)
  | .tup ds => skeys ds
  | _ => none
/-- a dict's keys, and one more of their sort -/
def kSort (ks : List D) (x : D) : Bool := (ks.all fun k => (skey k).isSome) && (skey x).isSome || (ks.all fun k => (tkey k).isSome) && (tkey x).isSome
/-- a dict's value at a key -/
def dlook : List D → List D → D → Option D
  | k :: ks, v :: vs, x => if deq k x then some v else dlook ks vs x
  | _, _, _ => none
def dput : List D → List D → D → D → List D × List D
  | k :: ks, v :: vs, x, y => if deq k x then (k :: ks, y :: vs) else ((dput ks vs x y).1.cons k, (dput ks vs x y).2.cons v)
  | _, _, x, y => ([x], [y])
def ddel : List D → List D → D → List D × List D
  | k :: ks, v :: vs, x => if deq k x then (ks, vs) else ((ddel ks vs x).1.cons k, (ddel ks vs x).2.cons v)
  | _, _, _ => ([], [])
mutual
/-- no list, no dict within -/
def flat : D → Bool
  | .tup ds => flats ds
  | .lst _ => false
  | .dic _ _ => false
  | .ins _ _ => false
  | _ => true
def flats : List D → Bool
  | [] => true
  | d :: ds => flat d && flats ds
end
def flatR : Rv → Bool
  | .im d => flat d
  | .fr (.lst ds) => flats ds
  | .fr (.dic ks vs) => flats ks && flats vs
  | _ => false

/-! ### the language -/
inductive B2 where | add | sub | mul | fdiv | mod | pow | shl | shr | and
  deriving DecidableEq
inductive C2 where | eq | ne | lt | le | gt | ge | isN | notN | inn | notin
  deriving DecidableEq
inductive Bf where | len | abs | max2 | min2 | int | list | tuple | sorted | sset | lset | sum | any | all | divmod | maxL | minL | isi
  deriving DecidableEq
inductive Sk where | each | rng1 | rng2 | rng3 | enum | zip | keys | items | signs
  deriving DecidableEq
inductive ME where
  | var (i : Nat) | cst (d : D) | glb (g : Nat)
  | nil | cons (a b : ME) | rd (i : Nat) (b : ME)
  | tup (a : ME) | lst (a : ME)
  | bin (o : B2) (a b : ME) | neg (a : ME)
  | cmp (o : C2) (a b : ME) | chain (o o' : C2) (a b c : ME)
  | and (a b : ME) | or (a b : ME) | not (a : ME) | ite (c a b : ME)
  | ix (a b : ME) | cut (a lo hi : ME) | rev (a : ME)
  | call (f : Nat) (a : ME) | callW (f i : Nat) (a : ME)
  | blt (b : Bf) (a : ME)
  | comp (vs : List Nat) (k : Sk) (src : ME) (tg : List Nat) (t : Bool) (c e : ME)
  | dic0
  | popv (i : Nat) | popi (i : Nat) (k : ME) | dget (a k x : ME)
  deriving Inhabited
inductive MS where
  | skip | seq (a b : MS)
  | asg (i : Nat) (e : ME) | unp (tg : List Nat) (e : ME) | par (i j : Nat) (a b : ME)
  | aug (i : Nat) (o : B2) (e : ME) | setx (i : Nat) (k e : ME)
  | app (i : Nat) (e : ME) | ext (i : Nat) (e : ME) | sdf (i : Nat) (k e : ME)
  | expr (e : ME) | ret (e : ME) | retN
  | iff (c : ME) (a b : MS) | loop (k : Sk) (src : ME) (tg : List Nat) (b : MS) | whl (c : ME) (b : MS)
  | brk | cont | rse (c : Nat)
  deriving Inhabited

/-! ### outcomes of statements and of defs -/
inductive Fl where
  | nx (δ : Ds) | rt (r : Rv) (δ : Ds) | bk (δ : Ds) | ct (δ : Ds) | ex (c : Nat) (δ : Ds) | bad
inductive FOut where
  | ret (r : Rv) (l : D) | ex (c : Nat) | bad
def Oc.toFl {α : Type} (o : Oc α) (f : α → Ds → Fl) : Fl := match o with
  | .ok a δ => f a δ
  | .ex c δ => .ex c δ
  | .bad => .bad
/-- where one stands: the defs, whether slot 0 is lent, how long a while may run, the names of the module -/
structure Cn where
  call : Nat → List Sl → FOut
  lt : Bool
  fuel : Nat
  glob : Nat → D

def ims : List Rv → Option (List D)
  | [] => some []
  | .im d :: r => (ims r).map (d :: ·)
  | _ => none
/-- what is to be read of a row of values -/
def looks : List Rv → Ds → Option (List D)
  | [], _ => some []
  | r :: rs, δ => match look r δ, looks rs δ with
    | some d, some ds => some (d :: ds)
    | _, _ => none
/-- some slot of the frame's own is lent to be read -/
def lends : List Rv → Ds → Bool
  | [], _ => false
  | .pk i :: rs, δ => (match δ[i]? with
    | some (.ow _) => true
    | _ => lends rs δ)
  | _ :: rs, δ => lends rs δ

/-! ### built-ins -/
def bI (i : Int) : Rv := .im (.int i)
def bB (b : Bool) : Rv := .im (.bl b)
def ints? : List D → Option (List Int)
  | [] => some []
  | .int i :: r => (ints? r).map (i :: ·)
  | _ => none
def bls? : List D → Option (List Bool)
  | [] => some []
  | .bl i :: r => (bls? r).map (i :: ·)
  | _ => none
mutual
/-- data that are sorted: ints, texts, tuples of such -/
def ordD : D → Bool
  | .int _ => true
  | .str x => x.cps.all (· < 0x110000)
  | .tup ds => ordDs ds
  | _ => false
def ordDs : List D → Bool
  | [] => true
  | d :: ds => ordD d && ordDs ds
end
def rankD : D → Nat
  | .int _ => 0
  | .str _ => 1
  | _ => 2
mutual
/-- the order, total on such data -/
def ltD : D → D → Bool
  | .int i, .int j => decide (i < j)
  | .str x, .str y => decide (x.cps.toList < y.cps.toList)
  | .tup xs, .tup ys => ltDs xs ys
  | a, b => decide (rankD a < rankD b)
def ltDs : List D → List D → Bool
  | [], [] => false
  | [], _ :: _ => true
  | _ :: _, [] => false
  | x :: xs, y :: ys => if deq x y then ltDs xs ys else ltD x y
end
/-- the sort's kind of an item -/
def kindD : D → Option Nat
  | .int _ => some 0
  | .tup (.int _ :: _) => some 2
  | .tup (.tup _ :: _) => some 4
  | _ => none
/-- what sorted takes: items of one kind, of which any two compare -/
def pairOk (ds : List D) : Bool := (ds.all fun x => ordD x && eqOk x) && (decide (ds.length < 2) || (match ds with
  | [] => true
  | d :: r => (kindD d).isSome && (r.all fun x => kindD x == kindD d) && (ds.all fun x => ds.all fun y => (dlt x y).isSome)))
def dins (x : D) : List D → List D
  | [] => [x]
  | y :: ys => if ltD y x then y :: dins x ys else x :: y :: ys
def dsort : List D → List D
  | [] => []
  | x :: xs => dins x (dsort xs)
def ddup : List D → List D
  | [] => []
  | x :: xs => if dmem x xs then ddup xs else x :: ddup xs
def isTy (n : String) : D → Option Bool
  | .non => some (n == "NoneType")
  | .bl _ => some (n == "bool" || n == "int")
  | .int _ => some (n == "int")
  | .str _ => some (n == "str")
  | .tup _ => some (n == "tuple")
  | .lst _ => some (n == "list")
  | .dic _ _ => some (n == "dict")
  | _ => none
def okTy (n : String) : Bool := n == "bool" || n == "int" || n == "str" || n == "tuple" || n == "list" || n == "dict"
/-- a tuple of ints -/
def tupI : D → Bool
  | .tup ds => (ints? ds).isSome
  | _ => false
def f_len : List D → Option Rv
  | [.lst ds] => some (bI ds.length)
  | [.tup ds] => some (bI ds.length)
  | [.str x] => if decide (x.length ≤ sizeLine) then some (bI x.length) else none
  | [.dic ks _] => if decide (ks.length ≤ sizeLine) then some (bI ks.length) else none
  | _ => none
def f_abs : List D → Option Rv
  | [.int i] => some (bI (if i < 0 then -i else i))
  | _ => none
def f_max2 : List D → Option Rv
  | [.int i, .int j] => some (bI (if j > i then j else i))
  | _ => none
def f_min2 : List D → Option Rv
  | [.int i, .int j] => some (bI (if j < i then j else i))
  | _ => none
def f_int : List D → Option Rv
  | [.int i] => some (bI i)
  | [.bl b] => some (bI (if b then 1 else 0))
  | _ => none
def f_list : List D → Option Rv
  | [.lst ds] => some (.fr (.lst ds))
  | [.tup ds] => some (.fr (.lst ds))
  | _ => none
def f_tuple : List D → Option Rv
  | [.lst ds] => some (.im (.tup ds))
  | [.tup ds] => some (.im (.tup ds))
  | _ => none
def f_sorted : List D → Option Rv
  | [.lst ds] => if pairOk ds then some (.fr (.lst (dsort ds))) else none
  | [.tup ds] => if pairOk ds then some (.fr (.lst (dsort ds))) else none
  | [.dic ks _] => if pairOk ks && decide (ks.length ≤ sizeLine) then some (.fr (.lst (dsort ks))) else none
  | _ => none
def f_sset : List D → Option Rv
  | [.lst ds] => if ds.all tupI && pairOk ds && decide (ds.length < 64) then some (.fr (.lst (dsort (ddup ds)))) else none
  | [.tup ds] => if ds.all tupI && pairOk ds && decide (ds.length < 64) then some (.fr (.lst (dsort (ddup ds)))) else none
  | _ => none
def f_lset : List D → Option Rv
  | [.lst ds] => if ds.all tupI && pairOk ds && decide (ds.length < 64) then some (bI (ddup ds).length) else none
  | _ => none
def f_sum : List D → Option Rv
  | [.lst ds] => (ints? ds).map fun ns => bI ns.sum
  | _ => none
def f_any : List D → Option Rv
  | [.lst ds] => (bls? ds).map fun ns => bB (ns.any id)
  | _ => none
def f_all : List D → Option Rv
  | [.lst ds] => (bls? ds).map fun ns => bB (ns.all id)
  | _ => none
def f_divmod : List D → Option Rv
  | [.int i, .int j] => if decide (0 < j) && decide (j < 2 ^ 64) then some (.im (.tup [.int (i / j), .int (i % j)])) else none
  | _ => none
def maxI : List Int → Option Int
  | [] => none
  | n :: ns => some (ns.foldl max n)
def minI : List Int → Option Int
  | [] => none
  | n :: ns => some (ns.foldl min n)
def f_maxL : List D → Option Rv
  | [.lst ds] => ((ints? ds).bind maxI).map bI
  | _ => none
def f_minL : List D → Option Rv
  | [.lst ds] => ((ints? ds).bind minI).map bI
  | _ => none
def f_isi : List D → Option Rv
  | [d, .ty n] => if okTy n then (isTy n d).map bB else none
  | [d, .tup [.ty n, .ty m]] => if okTy n && okTy m then (isTy n d).bind fun a => (isTy m d).map fun b => bB (a || b) else none
  | _ => none
def evB1 : Bf → List D → Option Rv
  | .len => f_len
  | .abs => f_abs
  | .max2 => f_max2
  | .min2 => f_min2
  | .int => f_int
  | .list => f_list
  | .tuple => f_tuple
  | .sorted => f_sorted
  | .sset => f_sset
  | .lset => f_lset
  | .sum => f_sum
  | .any => f_any
  | .all => f_all
  | .divmod => f_divmod
  | .maxL => f_maxL
  | .minL => f_minL
  | .isi => f_isi

/-! ### comparisons -/
def isNonD : D → Bool
  | .non => true
  | _ => false
def evC (o : C2) (a b : D) : Option D := match o with
  | .eq => if eqOk a && eqOk b then some (.bl (deq a b)) else none
  | .ne => if eqOk a && eqOk b then some (.bl (!deq a b)) else none
  | .lt => if eqOk a && eqOk b then (dlt a b).map .bl else none
  | .gt => match a, b with | .int i, .int j => some (.bl (decide (j < i))) | _, _ => none
  | .le => match a, b with | .int i, .int j => some (.bl (decide (i ≤ j))) | _, _ => none
  | .ge => match a, b with | .int i, .int j => some (.bl (decide (j ≤ i))) | _, _ => none
  | .isN => match b with | .non => some (.bl (isNonD a)) | _ => none
  | .notN => match b with | .non => some (.bl (!isNonD a)) | _ => none
  | .inn => match b with
    | .lst ds => if eqOk a && eqOk (.lst ds) then some (.bl (dmem a ds)) else none
    | .tup ds => if eqOk a && eqOk (.tup ds) then some (.bl (dmem a ds)) else none
    | .dic ks vs => if kSort ks a then some (.bl (dlook ks vs a).isSome) else none
    | _ => none
  | .notin => match b with
    | .lst ds => if eqOk a && eqOk (.lst ds) then some (.bl (!dmem a ds)) else none
    | .tup ds => if eqOk a && eqOk (.tup ds) then some (.bl (!dmem a ds)) else none
    | .dic ks vs => if kSort ks a then some (.bl (!(dlook ks vs a).isSome)) else none
    | _ => none
def kBin (o : B2) : Rv → Rv → Ds → Oc Rv := match o with
  | .add => kAdd
  | .sub => k2 dSub
  | .mul => k2 dMul
  | .fdiv => k2 dFdiv
  | .mod => k2 dMod
  | .pow => k2 dPow
  | .shl => k2 dShl
  | .shr => k2 dShr
  | .and => k2 dAnd
def kIx : Rv → Rv → Ds → Oc Rv := fun ra rb δ => match look ra δ, look rb δ with
  | some (.lst ds), some (.int i) => (match atI ds i with | some d => .ok (.im d) δ | none => .bad)
  | some (.tup ds), some (.int i) => (match atI ds i with | some d => .ok (.im d) δ | none => .bad)
  | some (.str z), some (.int i) => if decide (z.length ≤ sizeLine) then (match atI z.cps.toList i with | some c => .ok (.im (.str ⟨#[c]⟩)) δ | none => .bad) else .bad
  | some (.dic ks vs), some k => if kSort ks k then (match dlook ks vs k with | some d => .ok (.im d) δ | none => .bad) else .bad
  | _, _ => .bad
def cutD (xs : List D) (lo hi : Option Int) : List D := (xs.drop (HT.sIx xs.length 0 lo)).take (HT.sIx xs.length xs.length hi - HT.sIx xs.length 0 lo)
def kCut (lo hi : Option Int) : Rv → Ds → Oc Rv := fun ra δ => match look ra δ with
  | some (.lst ds) => .ok (.fr (.lst (cutD ds lo hi))) δ
  | some (.tup ds) => .ok (.im (.tup (cutD ds lo hi))) δ
  | _ => .bad
/-- a part of a slice -/
def part? (r : Rv) (δ : Ds) : Option (Option Int) := match look r δ with
  | some (.int i) => some (some i)
  | _ => none

/-! ### sources of loops -/
def rngD (lo : Int) (n : Nat) : List D := (List.range n).map fun (k : Nat) => D.int (lo + (k : Int))
def small62 (i : Int) : Bool := decide (-(2 ^ 62) ≤ i) && decide (i < 2 ^ 62)
def srcD (k : Sk) : List D → Option (List D) := match k with
  | .each => fun | [.lst ds] => some ds | [.tup ds] => some ds | _ => none
  | .rng1 => fun | [.int j] => if small62 j then some (rngD 0 j.toNat) else none | _ => none
  | .rng2 => fun | [.int i, .int j] => if small62 i && small62 j then some (rngD i (j - i).toNat) else none | _ => none
  | .rng3 => fun | _ => none
  | .enum => fun | [.lst ds] => some ((List.range ds.length).zipWith (fun (i : Nat) d => D.tup [.int (i : Int), d]) ds) | _ => none
  | .zip => fun | [.lst ds, .lst es] => some (ds.zipWith (fun d e => .tup [d, e]) es) | [.tup ds, .tup es] => some (ds.zipWith (fun d e => .tup [d, e]) es) | _ => none
  | .keys => fun | [.dic ks _] => some ks | _ => none
  | .items => fun | _ => none
  | .signs => fun | [.str x] => some (x.cps.toList.map fun c => .str ⟨#[c]⟩) | _ => none
def setAll : List Nat → List D → Ds → Ds
  | i :: is, d :: ds, δ => setAll is ds (δ.set i (.im d))
  | _, _, δ => δ
def bindM (tg : List Nat) (d : D) (δ : Ds) : Option Ds := match d with
  | .tup ds => if ds.length == tg.length then some (setAll tg ds δ) else none
  | _ => none
/-- an item goes to a target: one slot, or some by a tuple -/
def bindT (lt : Bool) (tg : List Nat) (d : D) (δ : Ds) : Option Ds :=
  if (lt && tg.contains 0) || !(tg.all fun i => decide (i < δ.length)) then none else match tg with
    | [i] => some (δ.set i (.im d))
    | tg => bindM tg d δ
def wipeD (δ : Ds) : List Nat → Ds
  | [] => δ
  | v :: vs => (wipeD δ vs).set v .no
def noOwn (δ : Ds) (vs : List Nat) : Bool := vs.all fun i => match δ[i]? with
  | some (.ow _) => false
  | some _ => true
  | none => false
def restore (δ0 : Ds) (δ : Ds) : List Nat → Ds
  | [] => δ
  | v :: vs => (restore δ0 δ vs).set v (match δ0[v]? with | some s => s | none => .no)
/-- a comprehension's turns: the slots ahead of a turn, what is made so far -/
def compL (lt : Bool) (vs tg : List Nat) (c : Option (Ds → Oc Rv)) (e : Ds → Oc Rv) : List D → Ds → List D → Oc (List D)
  | [], δ, acc => .ok acc δ
  | d :: ds, δ, acc => match bindT lt tg d δ with
    | none => .bad
    | some δ1 => match (match c with | none => Oc.ok (bB true) δ1 | some f => f δ1) with
      | .ok (.im (.bl true)) δ2 => (match e δ2 with
        | .ok r δ3 => (match froz lt r δ3 with
          | .ok y δ4 => if decide (acc.length < sizeLine) && noOwn δ4 vs then compL lt vs tg c e ds (wipeD δ4 vs) (acc ++ [y]) else .bad
          | _ => .bad)
        | _ => .bad)
      | .ok (.im (.bl false)) δ2 => if noOwn δ2 vs then compL lt vs tg c e ds (wipeD δ2 vs) acc else .bad
      | _ => .bad

/-! ### expressions -/
mutual
def evE (C : Cn) : ME → Ds → Oc Rv
  | .var i, δ => match δ[i]? with
    | some (.im d) => .ok (.im d) δ
    | some (.ow _) => .ok (.pk i) δ
    | _ => .bad
  | .cst d, δ => .ok (.im d) δ
  | .glb g, δ => .ok (.im (C.glob g)) δ
  | .nil, _ => .bad
  | .cons _ _, _ => .bad
  | .rd _ _, _ => .bad
  | .tup a, δ => (evL C a δ).bind fun rs δ1 => match ims rs with
    | some ds => if decide (ds.length ≤ sizeLine) then .ok (.im (.tup ds)) δ1 else .bad
    | none => .bad
  | .lst a, δ => (evL C a δ).bind fun rs δ1 => match ims rs with
    | some ds => if decide (ds.length ≤ sizeLine) then .ok (.fr (.lst ds)) δ1 else .bad
    | none => .bad
  | .bin o a b, δ => ev2 (evE C a) (evE C b) (kBin o) δ
  | .neg a, δ => ev1 (evE C a) (k1 dNeg) δ
  | .cmp o a b, δ => ev2 (evE C a) (evE C b) (k2 (evC o)) δ
  | .chain o o' a b c, δ => (evE C a δ).bind fun ra δ1 => (evE C b δ1).bind fun rb δ2 => (k2 (evC o) ra.seen rb.seen δ2).bind fun r δ3 => match r with
    | .im (.bl true) => (evE C c δ3).bind fun rc δ4 => k2 (evC o') rb.seen rc.seen δ4
    | .im (.bl false) => .ok (bB false) δ3
    | _ => .bad
  | .and a b, δ => (evE C a δ).bind fun r δ1 => match r with
    | .im (.bl true) => evE C b δ1
    | .im (.bl false) => .ok (bB false) δ1
    | _ => .bad
  | .or a b, δ => (evE C a δ).bind fun r δ1 => match r with
    | .im (.bl true) => .ok (bB true) δ1
    | .im (.bl false) => evE C b δ1
    | _ => .bad
  | .not a, δ => (evE C a δ).bind fun r δ1 => match r with
    | .im (.bl b) => .ok (bB (!b)) δ1
    | _ => .bad
  | .ite c a b, δ => (evE C c δ).bind fun r δ1 => match r with
    | .im (.bl true) => evE C a δ1
    | .im (.bl false) => evE C b δ1
    | _ => .bad
  | .ix a b, δ => ev2 (evE C a) (evE C b) kIx δ
  | .cut a lo hi, δ => (evE C a δ).bind fun ra δ1 => match lo, hi with
    | .nil, .nil => kCut none none ra.seen δ1
    | .nil, hi => (evE C hi δ1).bind fun rh δ2 => (match part? rh δ2 with | some h => kCut none h ra.seen δ2 | none => .bad)
    | lo, .nil => (evE C lo δ1).bind fun rl δ2 => (match part? rl δ2 with | some l => kCut l none ra.seen δ2 | none => .bad)
    | lo, hi => (evE C lo δ1).bind fun rl δ2 => (match part? rl δ2 with | some l => (evE C hi δ2).bind fun rh δ3 => (match part? rh δ3 with | some h => kCut l h ra.seen δ3 | none => .bad) | none => .bad)
  | .rev _, _ => .bad
  | .call f a, δ => (evL C a δ).bind fun rs δ1 => match looks rs δ1 with
    | none => .bad
    | some ds => match C.call f (ds.map .im) with
      | .ret r _ => if lends rs δ1 && !flatR r then .bad else .ok r δ1
      | .ex c => .ex c δ1
      | .bad => .bad
  | .callW f i a, δ => match δ[i]? with
    | some (.ow _) => (evL C a δ).bind fun rs δ1 => (match looks rs δ1, δ1[i]? with
      | some ds, some (.ow d) => if lends rs δ1 then .bad else (match C.call f (.ow d :: ds.map .im) with
        | .ret r l => .ok r (δ1.set i (.ow l))
        | .ex c => if C.lt && i == 0 then .bad else .ex c (δ1.set i .no)
        | .bad => .bad)
      | _, _ => .bad)
    | _ => .bad
  | .blt b a, δ => (evL C a δ).bind fun rs δ1 => match looks rs δ1 with
    | none => .bad
    | some ds => match evB1 b ds with
      | some r => .ok r δ1
      | none => .bad
  | .comp vs k src tg t c e, δ => (evL C src δ).bind fun rs δ1 => match looks rs δ1 with
    | none => .bad
    | some ss => match srcD k ss with
      | none => .bad
      | some ds => if lends rs δ1 then .bad else if !noOwn δ1 vs || (C.lt && vs.contains 0) || !(tg.all vs.contains) then .bad else
        (compL C.lt vs tg (if t then some (evE C c) else none) (evE C e) ds (wipeD δ1 vs) []).bind fun acc δ2 => .ok (.fr (.lst acc)) (restore δ1 δ2 vs)
  | .dic0, δ => .ok (.fr (.dic [] [])) δ
  | .popv i, δ => match δ[i]? with
    | some (.ow (.lst ds)) => (match ds[ds.length - 1]? with
      | some d => .ok (.im d) (δ.set i (.ow (.lst ds.dropLast)))
      | none => .bad)
    | _ => .bad
  | .popi i k, δ => match δ[i]? with
    | some (.ow (.lst _)) => (evE C k δ).bind fun rk δ1 => (match look rk δ1, δ1[i]? with
      | some (.int n), some (.ow (.lst ds)) => if decide (ds.length ≤ sizeLine) then (match ixN ds.length n with
        | some j => (match ds[j]? with
          | some d => .ok (.im d) (δ1.set i (.ow (.lst (ds.eraseIdx j))))
          | none => .bad)
        | none => .bad) else .bad
      | _, _ => .bad)
    | some (.ow (.dic _ _)) => (evE C k δ).bind fun rk δ1 => (match look rk δ1, δ1[i]? with
      | some x, some (.ow (.dic ks vs)) => if kSort ks x && (tkey x).isSome && decide (ks.length ≤ sizeLine) then (match dlook ks vs x with
        | some d => .ok (.im d) (δ1.set i (.ow (.dic (ddel ks vs x).1 (ddel ks vs x).2)))
        | none => .bad) else .bad
      | _, _ => .bad)
    | _ => .bad
  | .dget a k x, δ => (evE C a δ).bind fun ra δ1 => (evE C k δ1).bind fun rk δ2 => (evE C x δ2).bind fun rx δ3 => match look ra.seen δ3, look rk.seen δ3, froz C.lt rx δ3 with
    | some (.dic ks vs), some y, .ok z δ4 => if kSort ks y then .ok (.im ((dlook ks vs y).getD z)) δ4 else .bad
    | _, _, _ => .bad
/-- a row of values: data for good, or a look at a slot -/
def evL (C : Cn) : ME → Ds → Oc (List Rv)
  | .nil, δ => .ok [] δ
  | .cons a b, δ => (evE C a δ).bind fun r δ1 => match froz C.lt r δ1 with
    | .ok d δ2 => (evL C b δ2).bind fun rs δ3 => .ok (.im d :: rs) δ3
    | _ => .bad
  | .rd i b, δ => match δ[i]? with
    | some (.im _) => (evL C b δ).bind fun rs δ1 => .ok (.pk i :: rs) δ1
    | some (.ow _) => (evL C b δ).bind fun rs δ1 => .ok (.pk i :: rs) δ1
    | _ => .bad
  | _, _ => .bad
end

/-! ### statements -/
def forL (lt : Bool) (tg : List Nat) (b : Ds → Fl) : List D → Ds → Fl
  | [], δ => .nx δ
  | d :: ds, δ => match bindT lt tg d δ with
    | none => .bad
    | some δ1 => match b δ1 with
      | .nx δ2 => forL lt tg b ds δ2
      | .ct δ2 => forL lt tg b ds δ2
      | .bk δ2 => .nx δ2
      | .rt r δ2 => .rt r δ2
      | .ex c δ2 => .ex c δ2
      | .bad => .bad
def whlL (c : Ds → Oc Rv) (b : Ds → Fl) : Nat → Ds → Fl
  | 0, _ => .bad
  | n + 1, δ => (c δ).toFl fun r δ1 => match r with
    | .im (.bl true) => (match b δ1 with
      | .nx δ2 => whlL c b n δ2
      | .ct δ2 => whlL c b n δ2
      | .bk δ2 => .nx δ2
      | .rt r δ2 => .rt r δ2
      | .ex c δ2 => .ex c δ2
      | .bad => .bad)
    | .im (.bl false) => .nx δ1
    | _ => .bad
/-- a value goes to a slot -/
def stor (lt : Bool) (i : Nat) (r : Rv) (δ : Ds) : Fl := if (lt && i == 0) || !decide (i < δ.length) then .bad else match r with
  | .im d => .nx (δ.set i (.im d))
  | .fr d => .nx (δ.set i (.ow d))
  | .pk j => (match froz lt (.pk j) δ with
    | .ok d δ1 => .nx (δ1.set i (.im d))
    | _ => .bad)
def evS (C : Cn) : MS → Ds → Fl
  | .skip, δ => .nx δ
  | .seq a b, δ => match evS C a δ with
    | .nx δ1 => evS C b δ1
    | f => f
  | .asg i e, δ => (evE C e δ).toFl fun r δ1 => stor C.lt i r δ1
  | .unp tg e, δ => (evE C e δ).toFl fun r δ1 => match look r δ1 with
    | some (.tup ds) => (match bindT C.lt tg (.tup ds) δ1 with | some δ2 => if tg.length == 1 then .bad else .nx δ2 | none => .bad)
    | _ => .bad
  | .par i j a b, δ => (evL C (.cons a (.cons b .nil)) δ).toFl fun rs δ1 => match ims rs with
    | some [x, y] => if i == j || (C.lt && (i == 0 || j == 0)) || !(decide (i < δ1.length) && decide (j < δ1.length)) then .bad else .nx ((δ1.set i (.im x)).set j (.im y))
    | _ => .bad
  | .aug i o e, δ => if C.lt && i == 0 then .bad else match δ[i]? with
    | some (.im (.int x)) => (evE C e δ).toFl fun r δ1 => (match look r δ1 with
      | some (.int y) => (match o with
        | .add => .nx (δ1.set i (.im (.int (x + y))))
        | .sub => .nx (δ1.set i (.im (.int (x - y))))
        | _ => .bad)
      | _ => .bad)
    | _ => .bad
  | .setx i k e, δ => (evE C e δ).toFl fun r δ1 => match froz C.lt r δ1 with
    | .ok y δ2 => (match δ2[i]? with
      | some (.ow _) => (evE C k δ2).toFl fun rk δ3 => (match froz C.lt rk δ3 with
        | .ok x δ4 => (match x, δ4[i]? with
          | .int n, some (.ow (.lst ds)) => (match ixN ds.length n with
            | some j => .nx (δ4.set i (.ow (.lst (ds.set j y))))
            | none => .bad)
          | x, some (.ow (.dic ks vs)) => if kSort ks x && decide (ks.length < sizeLine) then .nx (δ4.set i (.ow (.dic (dput ks vs x y).1 (dput ks vs x y).2))) else .bad
          | _, _ => .bad)
        | _ => .bad)
      | _ => .bad)
    | _ => .bad
  | .app i e, δ => match δ[i]? with
    | some (.ow (.lst _)) => (evE C e δ).toFl fun r δ1 => (match froz C.lt r δ1 with
      | .ok y δ2 => (match δ2[i]? with
        | some (.ow (.lst ds)) => if decide (ds.length < sizeLine) then .nx (δ2.set i (.ow (.lst (ds ++ [y])))) else .bad
        | _ => .bad)
      | _ => .bad)
    | _ => .bad
  | .ext i e, δ => match δ[i]? with
    | some (.ow (.lst _)) => (evE C e δ).toFl fun r δ1 => (match froz C.lt r δ1 with
      | .ok (.lst es) δ2 => (match δ2[i]? with
        | some (.ow (.lst ds)) => if decide (ds.length + es.length ≤ sizeLine) then .nx (δ2.set i (.ow (.lst (ds ++ es)))) else .bad
        | _ => .bad)
      | _ => .bad)
    | _ => .bad
  | .sdf _ _ _, _ => .bad
  | .expr e, δ => (evE C e δ).toFl fun _ δ1 => .nx δ1
  | .ret e, δ => (evE C e δ).toFl fun r δ1 => .rt r δ1
  | .retN, δ => .rt (.im .non) δ
  | .iff c a b, δ => (evE C c δ).toFl fun r δ1 => match r with
    | .im (.bl true) => evS C a δ1
    | .im (.bl false) => evS C b δ1
    | _ => .bad
  | .loop k src tg b, δ => (evL C src δ).toFl fun rs δ1 => match looks rs δ1 with
    | none => .bad
    | some ss => (match srcD k ss with
      | none => .bad
      | some ds => if lends rs δ1 then .bad else forL C.lt tg (evS C b) ds δ1)
  | .whl c b, δ => whlL (evE C c) (evS C b) C.fuel δ
  | .brk, δ => .bk δ
  | .cont, δ => .ct δ
  | .rse c, δ => .ex c δ

/-! ### defs -/
structure Fn where
  np : Nat
  nv : Nat
  body : MS
/-- the end of a def's body -/
def endF (lt : Bool) : Fl → FOut
  | .nx δ => if lt then (match (δ[0]? : Option Sl) with | some (.ow l) => .ret (.im .non) l | _ => .bad) else .ret (.im .non) .non
  | .rt r δ => match r with
    | .pk i => if lt && i == 0 then .bad else (match (δ[i]? : Option Sl) with
      | some (.ow d) => if lt then (match (δ[0]? : Option Sl) with | some (.ow l) => .ret (.fr d) l | _ => .bad) else .ret (.fr d) .non
      | some (.im d) => if lt then (match (δ[0]? : Option Sl) with | some (.ow l) => .ret (.im d) l | _ => .bad) else .ret (.im d) .non
      | _ => .bad)
    | r => if lt then (match (δ[0]? : Option Sl) with | some (.ow l) => .ret r l | _ => .bad) else .ret r .non
  | .ex c _ => .ex c
  | _ => .bad
def isOw : Sl → Bool
  | .ow _ => true
  | _ => false
def lentOf (args : List Sl) : Bool := match args with
  | s :: _ => isOw s
  | [] => false
def callD (fuel : Nat) (glob : Nat → D) (fs : Nat → Fn) : Nat → Nat → List Sl → FOut
  | 0, _, _ => .bad
  | k + 1, f, args => if args.length == (fs f).np && !((args.drop 1).any isOw) then
      endF (lentOf args) (evS ⟨callD fuel glob fs k, lentOf args, fuel, glob⟩ (fs f).body (args ++ List.replicate ((fs f).nv - (fs f).np) .no)) else .bad
end EL

set_option Elab.async false
set_option linter.all false
set_option maxRecDepth 100000
/-! promises of defs; what a call leaves -/
namespace EL
open PySem PySem.Spec PyProof.Rows L2

noncomputable def less (H : Hp) (L : Option Addr) : Hp := fun a => if L = some a then none else H a
theorem less_some {H : Hp} {L : Option Addr} {a : Addr} {o : HO} (h : less H L a = some o) : L ≠ some a ∧ H a = some o := by
  unfold less at h
  split at h
  · cases h
  · rename_i n
    exact ⟨n, h⟩
theorem less_of {H : Hp} {L : Option Addr} {a : Addr} {o : HO} (n : L ≠ some a) (h : H a = some o) : less H L a = some o := by
  unfold less
  rw [if_neg n]
  exact h
theorem less_none {H : Hp} {L : Option Addr} {a : Addr} (h : less H L a = none) : L = some a ∨ H a = none := by
  unfold less at h
  split at h
  · rename_i n
    exact .inl n
  · exact .inr h

/-- what a def leaves -/
def RetOk (Φ : Fr) (H : Hp) (r : Rv) (l : D) (v : V) (H' : Hp) : Prop := (∀ a o, Φ.F a = some o → H' a = some o) ∧ match r with
  | .im d => Rep Φ.R (hid H' Φ.B) d v ∧ ∀ a, Φ.L = some a → At Φ.R (hid H' Φ.B) H' a l
  | .fr d => ∃ p, v = .ref p ∧ H p = none ∧ At Φ.R (hid H' fun b => Φ.B b ∨ b = p) H' p d ∧ ∀ a, Φ.L = some a → At Φ.R (hid H' fun b => Φ.B b ∨ b = p) H' a l
  | .pk _ => False
def PostF (Φ : Fr) (H : Hp) (o : FOut) (Q : VK) (E : XK) : Prop := match o with
  | .bad => False
  | .ex c => ∀ H', (∀ a o, Φ.F a = some o → H' a = some o) → (∀ b, Φ.B b → ∃ o, H' b = some o) → E (.ref (Φ.R.ad c)) none H'
  | .ret r l => ∀ v H', RetOk Φ H r l v H' → Q v H'
/-- a def's promise by its function on slots -/
def spF (R : RC) (g : List Sl → FOut) : Sp := fun vs H Q E => ∃ (Φ : Fr) (args : List Sl), Φ.R = R ∧ Φ.F = less H Φ.L ∧ ((args.drop 1).any isOw) = false ∧ lentOf args = Φ.L.isSome ∧
  Rl Φ X0 args (vs.map some) H ∧ PostF Φ H (g args) Q E

section
variable {Φ : Fr} {X : Addr → Prop} {δ : Ds} {σ : L2.St} {H : Hp}
theorem getn {α : Type} (l : List α) (n : Nat) (x : α) (i : Nat) (y : α) (h : (l ++ List.replicate n x)[i]? = some y) : l[i]? = some y ∨ (l.length ≤ i ∧ y = x) := by
  by_cases hi : i < l.length
  · rw [List.getElem?_append_left hi] at h; exact .inl h
  · rw [List.getElem?_append_right (by omega)] at h
    rw [List.getElem?_replicate] at h
    split at h
    · exact .inr ⟨by omega, (Option.some.inj h).symm⟩
    · cases h
theorem Rl.more (r : Rl Φ X δ σ H) (n : Nat) : Rl Φ X (δ ++ List.replicate n .no) (σ ++ List.replicate n none) H ∧ gG Φ X (δ ++ List.replicate n .no) (σ ++ List.replicate n none) H = gG Φ X δ σ H := by
  have at_ : ∀ i a, OwnAt (δ ++ List.replicate n .no) (σ ++ List.replicate n none) i a ↔ OwnAt δ σ i a := by
    intro i a
    constructor
    · rintro ⟨⟨d, h1⟩, h2⟩
      rcases getn _ _ _ _ _ h1 with h1 | ⟨_, h1⟩
      · rcases getn _ _ _ _ _ h2 with h2 | ⟨_, h2⟩
        · exact ⟨⟨d, h1⟩, h2⟩
        · cases h2
      · cases h1
    · rintro ⟨⟨d, h1⟩, h2⟩
      exact ⟨⟨d, by rw [List.getElem?_append_left (List.getElem?_eq_some_iff.mp h1).1]; exact h1⟩, by rw [List.getElem?_append_left (List.getElem?_eq_some_iff.mp h2).1]; exact h2⟩
  have ow_ : ∀ a, Own (δ ++ List.replicate n .no) (σ ++ List.replicate n none) a ↔ Own δ σ a := fun a => ⟨fun ⟨i, h⟩ => ⟨i, (at_ i a).mp h⟩, fun ⟨i, h⟩ => ⟨i, (at_ i a).mpr h⟩⟩
  have eg : gG Φ X (δ ++ List.replicate n .no) (σ ++ List.replicate n none) H = gG Φ X δ σ H := by
    have e : Hd Φ X (δ ++ List.replicate n .no) (σ ++ List.replicate n none) = Hd Φ X δ σ := by
      funext a
      show (_ ∨ _ ∨ _) = (_ ∨ _ ∨ _)
      rw [propext (ow_ a)]
    show hid H _ = hid H _
    rw [e]
  refine ⟨⟨by rw [List.length_append, List.length_append, List.length_replicate, List.length_replicate, r.len], r.fix, fun i j a h1 h2 => r.inj i j a ((at_ i a).mp h1) ((at_ j a).mp h2), fun a h => r.own a ((ow_ a).mp h), fun i d h => ?_, fun i d h => ?_,
    fun a h => (at_ 0 a).mpr (r.lent a h), r.bd, fun a h => ?_, r.bf⟩, eg⟩
  · rcases getn _ _ _ _ _ h with h | ⟨_, h⟩
    · obtain ⟨v, e1, e2⟩ := r.im i d h
      exact ⟨v, by rw [List.getElem?_append_left (List.getElem?_eq_some_iff.mp e1).1]; exact e1, eg ▸ e2⟩
    · cases h
  · rcases getn _ _ _ _ _ h with h | ⟨_, h⟩
    · obtain ⟨a, e1, e2⟩ := r.ow i d h
      exact ⟨a, by rw [List.getElem?_append_left (List.getElem?_eq_some_iff.mp e1).1]; exact e1, eg ▸ e2⟩
    · cases h
  · obtain ⟨h1, h2, h3, h4⟩ := r.xd a h
    exact ⟨h1, h2, h3, fun z => h4 ((ow_ a).mp z)⟩
end

/-! ### the end of a def -/
theorem ret_of {Φ : Fr} {δ : Ds} {σ : L2.St} {H H' G0 : Hp} {r r' : Rv} {l : D} {v : V} {lt : Bool} (hF : Φ.F = less H Φ.L) (hl : Φ.L.isSome = lt) (ok : ResOk Φ σ G0 r δ v H') (e : endF lt (.rt r δ) = .ret r' l) : RetOk Φ H r' l v H' := by
  have fin : ∀ (X : Addr → Prop) (S : Addr → Prop) (R0 : Rl Φ X δ σ H') (hS : ∀ b o, H' b = some o → S b → Hd Φ X δ σ b), (lt = true → δ[0]? = some (.ow l)) → ∀ a, Φ.L = some a → At Φ.R (hid H' S) H' a l := by
    intro X S R0 hS hlt a ha
    have h0 := hlt (by rw [← hl, ha]; rfl)
    obtain ⟨b, e1, o, e2, e3⟩ := R0.ow 0 l h0
    obtain ⟨_, e4⟩ := R0.lent a ha
    rw [e1] at e4
    cases e4
    exact ⟨o, e2, e3.mono (hid_gr hS fun b o _ q => q)⟩
  have l0 : ∀ {x : Rv}, (if lt then (match (δ[0]? : Option Sl) with | some (.ow l) => FOut.ret x l | _ => .bad) else .ret x .non) = .ret r' l → r' = x ∧ (lt = true → δ[0]? = some (.ow l)) := by
    intro x h
    split at h
    · split at h
      · rename_i l' q
        cases h
        exact ⟨rfl, fun _ => q⟩
      · cases h
    · rename_i n
      cases h
      exact ⟨rfl, fun z => absurd z n⟩
  cases r with
  | im d =>
    obtain ⟨rfl, h0⟩ := l0 (x := .im d) e
    obtain ⟨R0, g, h⟩ := ok
    exact ⟨R0.fix, h.mono (hid_gr (fun b o _ q => .inr (.inl q)) fun b o _ q => q), fin _ _ R0 (fun b o _ q => .inr (.inl q)) h0⟩
  | fr d =>
    obtain ⟨rfl, h0⟩ := l0 (x := .fr d) e
    obtain ⟨p, rfl, R0, g, o, h1, h2⟩ := ok
    have hp : Φ.F p = none := (R0.xd p rfl).2.1
    have sub : ∀ b o, H' b = some o → (Φ.B b ∨ b = p) → Hd Φ (X1 p) δ σ b := fun b o _ q => by
      rcases q with q | q
      · exact .inr (.inl q)
      · exact .inl q
    refine ⟨R0.fix, p, rfl, ?_, ⟨o, h1, h2.mono (hid_gr sub fun b o _ q => q)⟩, fin _ _ R0 sub h0⟩
    rw [hF] at hp
    rcases less_none hp with q | q
    · exact absurd ⟨0, R0.lent p q⟩ (R0.xd p rfl).2.2.2
    · exact q
  | pk i =>
    obtain ⟨R0, g, hv⟩ := ok
    simp only [endF] at e
    split at e
    · cases e
    · rename_i hn
      have hn : (lt && i == 0) = false := by simpa using hn
      split at e
      · rename_i d q
        obtain ⟨rfl, h0⟩ := l0 (x := .fr d) e
        obtain ⟨a, e1, o, e2, e3⟩ := R0.ow i d q
        rw [hv] at e1
        cases e1
        have oa : OwnAt δ σ i a := ⟨⟨d, q⟩, hv⟩
        have sub : ∀ b o, H' b = some o → (Φ.B b ∨ b = a) → Hd Φ X0 δ σ b := fun b o _ q => by
          rcases q with q | q
          · exact .inr (.inl q)
          · exact .inr (.inr (q ▸ ⟨i, oa⟩))
        refine ⟨R0.fix, a, rfl, ?_, ⟨o, e2, e3.mono (hid_gr sub fun b o _ q => q)⟩, fin _ _ R0 sub h0⟩
        have hp := R0.own a ⟨i, oa⟩
        rw [hF] at hp
        rcases less_none hp with z | z
        · have := R0.inj 0 i a (R0.lent a z) oa
          rcases hl_of hl hn with y | y
          · rw [y] at z; cases z
          · exact absurd this.symm y
        · exact z
      · rename_i d q
        obtain ⟨rfl, h0⟩ := l0 (x := .im d) e
        obtain ⟨w, e1, e2⟩ := R0.im i d q
        rw [hv] at e1
        cases e1
        exact ⟨R0.fix, e2.mono (hid_gr (fun b o _ q => .inr (.inl q)) fun b o _ q => q), fin _ _ R0 (fun b o _ q => .inr (.inl q)) h0⟩
      · cases e

/-! ### flat data do not hang on lists -/
mutual
theorem Rep.flat {R : RC} {G G' : Hp} (g : ∀ a vs, SqT R.K G a vs → SqT R.K G' a vs) : ∀ {d : D} {v : V}, EL.flat d = true → Rep R G d v → Rep R G' d v
  | .non, _, _, h => by simp only [Rep] at h ⊢; exact h
  | .bl _, _, _, h => by simp only [Rep] at h ⊢; exact h
  | .int _, _, _, h => by simp only [Rep] at h ⊢; exact h
  | .str _, _, _, h => by simp only [Rep] at h ⊢; exact h
  | .obj _, _, _, h => by simp only [Rep] at h ⊢; exact h
  | .ty _, _, _, h => by simp only [Rep] at h ⊢; exact h
  | .tup ds, _, f, h => by
    simp only [Rep] at h ⊢
    obtain ⟨a, vs, e, s, r⟩ := h
    exact ⟨a, vs, e, g _ _ s, Reps.flat g (by simpa only [EL.flat] using f) r⟩
  | .lst ds, _, f, _ => by simp only [EL.flat] at f; cases f
  | .dic _ _, _, f, _ => by simp only [EL.flat] at f; cases f
  | .ins _ _, _, f, _ => by simp only [EL.flat] at f; cases f
theorem Reps.flat {R : RC} {G G' : Hp} (g : ∀ a vs, SqT R.K G a vs → SqT R.K G' a vs) : ∀ {ds : List D} {vs : List V}, EL.flats ds = true → Reps R G ds vs → Reps R G' ds vs
  | [], _, _, h => by simp only [Reps] at h ⊢; exact h
  | d :: ds, _, f, h => by
    simp only [Reps] at h ⊢
    simp only [EL.flats, Bool.and_eq_true] at f
    obtain ⟨v, r, e, h1, h2⟩ := h
    exact ⟨v, r, e, Rep.flat g f.1 h1, Reps.flat g f.2 h2⟩
end
theorem AtO.notTup {R : RC} {G : Hp} {a : Addr} {o : HO} : ∀ {d : D}, AtO R G a o d → (∀ vs, o ≠ .tup vs) ∧ ∀ ob vs, o ≠ .frz ob (.tup vs)
  | .lst _, ⟨_, e, _⟩ => by subst e; exact ⟨(fun _ z => nomatch z), fun _ _ z => nomatch z⟩
  | .dic _ _, ⟨_, e, _⟩ => by subst e; exact ⟨(fun _ z => by unfold dicO at z; cases z), fun _ _ z => by unfold dicO at z; cases z⟩
  | .non, h => h.elim
  | .bl _, h => h.elim
  | .int _, h => h.elim
  | .str _, h => h.elim
  | .obj _, h => h.elim
  | .ty _, h => h.elim
  | .tup _, h => h.elim
  | .ins _ _, h => h.elim
end EL

set_option Elab.async false
set_option linter.all false
set_option maxRecDepth 100000
/-! behind a call -/
namespace EL
open PySem PySem.Spec PyProof.Rows L2
section
variable {Φ : Fr} {δ : Ds} {σ : L2.St} {H H' : Hp}
/-- all that was is as it was; S is new -/
theorem Rl.after (r : Rl Φ X0 δ σ H) (k : ∀ a o, H a = some o → H' a = some o) {S : Addr → Prop} (hS : ∀ a, S a → H a = none ∧ ∃ o, H' a = some o) :
    Rl Φ S δ σ H' ∧ Gr (gG Φ X0 δ σ H) (gG Φ S δ σ H') := by
  have g : Gr (gG Φ X0 δ σ H) (gG Φ S δ σ H') := hid_gr (fun a o e h => by
    rcases h with h | h
    · rw [(hS a h).1] at e; cases e
    · exact .inr h) fun a o _ e => k a o e
  refine ⟨⟨r.len, fun a o e => k a o (r.fix a o e), r.inj, r.own, fun i d e => ?_, fun i d e => ?_, r.lent, fun b h => ?_, fun a h => ?_, r.bf⟩, g⟩
  · obtain ⟨v, e1, e2⟩ := r.im i d e
    exact ⟨v, e1, e2.mono g⟩
  · obtain ⟨a, e1, o, e2, e3⟩ := r.ow i d e
    exact ⟨a, e1, o, k a o e2, e3.mono g⟩
  · obtain ⟨o, e⟩ := r.bd b h
    exact ⟨o, k b o e⟩
  · obtain ⟨h1, h2⟩ := hS a h
    exact ⟨h2, r.newF h1, fun z => r.newHd h1 (.inr (.inl z)), fun z => r.newHd h1 (.inr (.inr z))⟩
/-- all but the list or dict of slot i is as it was -/
theorem Rl.afterW {i : Nat} {d : D} {a : Addr} (r : Rl Φ X0 δ σ H) (hd : δ[i]? = some (.ow d)) (hv : σ[i]? = some (some (.ref a))) (k : ∀ b o, b ≠ a → H b = some o → H' b = some o)
    {S : Addr → Prop} (hS : ∀ a, S a → H a = none ∧ ∃ o, H' a = some o) {l : D} (hl : At Φ.R (hid H' fun b => Hd Φ X0 δ σ b ∨ S b) H' a l) :
    Rl Φ S (δ.set i (.ow l)) σ H' ∧ Gr (gG Φ X0 δ σ H) (gG Φ S (δ.set i (.ow l)) σ H') := by
  have hlt := (List.getElem?_eq_some_iff.mp hd).1
  have oa : OwnAt δ σ i a := ⟨⟨d, hd⟩, hv⟩
  have at_ : ∀ j b, OwnAt (δ.set i (.ow l)) σ j b ↔ OwnAt δ σ j b := by
    intro j b
    constructor
    · rintro ⟨⟨e, h1⟩, h2⟩
      rcases get_set h1 with ⟨e1, e2⟩ | ⟨e1, e2⟩
      · exact ⟨⟨d, by rw [e1]; exact hd⟩, h2⟩
      · exact ⟨⟨e, e2⟩, h2⟩
    · rintro ⟨⟨e, h1⟩, h2⟩
      by_cases z : j = i
      · exact ⟨⟨l, by rw [z, List.getElem?_set_self hlt]⟩, h2⟩
      · exact ⟨⟨e, by rw [List.getElem?_set_ne (Ne.symm z)]; exact h1⟩, h2⟩
  have ow_ : ∀ b, Own (δ.set i (.ow l)) σ b ↔ Own δ σ b := fun b => ⟨fun ⟨j, h⟩ => ⟨j, (at_ j b).mp h⟩, fun ⟨j, h⟩ => ⟨j, (at_ j b).mpr h⟩⟩
  have hd_ : ∀ b, Hd Φ S (δ.set i (.ow l)) σ b ↔ (Hd Φ X0 δ σ b ∨ S b) := fun b => by
    constructor
    · rintro (z | z | z)
      · exact .inr z
      · exact .inl (.inr (.inl z))
      · exact .inl (.inr (.inr ((ow_ b).mp z)))
    · rintro ((z | z | z) | z)
      · exact z.elim
      · exact .inr (.inl z)
      · exact .inr (.inr ((ow_ b).mpr z))
      · exact .inl z
  have g : Gr (gG Φ X0 δ σ H) (gG Φ S (δ.set i (.ow l)) σ H') := hid_gr (fun b o e h => by
    rcases (hd_ b).mp h with h | h
    · exact h
    · rw [(hS b h).1] at e; cases e) fun b o n e => k b o (fun z => n (by rw [z]; exact .inr (.inr ⟨i, oa⟩))) e
  have g2 : Gr (hid H' fun b => Hd Φ X0 δ σ b ∨ S b) (gG Φ S (δ.set i (.ow l)) σ H') := hid_gr (fun b o _ h => (hd_ b).mp h) fun b o _ e => e
  have F0 := r.own a ⟨i, oa⟩
  obtain ⟨ol, hl1, hl2⟩ := hl
  refine ⟨⟨by rw [List.length_set]; exact r.len, fun b u e => ?_, fun j m b h1 h2 => r.inj j m b ((at_ j b).mp h1) ((at_ m b).mp h2), fun b h => r.own b ((ow_ b).mp h), fun j e q => ?_, fun j e q => ?_, fun b e => (at_ 0 b).mpr (r.lent b e), fun b q => ?_, fun b q => ?_, r.bf⟩, g⟩
  · refine k b u ?_ (r.fix b u e)
    rintro rfl
    rw [F0] at e; cases e
  · rcases get_set q with ⟨e1, e2⟩ | ⟨e1, e2⟩
    · cases e2
    · obtain ⟨v, e3, e4⟩ := r.im j e e2
      exact ⟨v, e3, e4.mono g⟩
  · rcases get_set q with ⟨e1, e2⟩ | ⟨e1, e2⟩
    · cases e2
      exact ⟨a, by rw [e1]; exact hv, ol, hl1, hl2.mono g2⟩
    · obtain ⟨b, e3, u, e4, e5⟩ := r.ow j e e2
      refine ⟨b, e3, u, k b u ?_ e4, e5.mono g⟩
      rintro rfl
      exact e1 (r.inj j i b ⟨⟨e, e2⟩, e3⟩ oa)
  · by_cases z : b = a
    · rw [z]; exact ⟨ol, hl1⟩
    · obtain ⟨u, e⟩ := r.bd b q
      exact ⟨u, k b u z e⟩
  · obtain ⟨h1, h2⟩ := hS b q
    exact ⟨h2, r.newF h1, fun z => r.newHd h1 (.inr (.inl z)), fun z => r.newHd h1 (.inr (.inr ((ow_ b).mp z)))⟩
/-- .. and the slot is forgotten -/
theorem Rl.afterX {i : Nat} {d : D} {a : Addr} (r : Rl Φ X0 δ σ H) (hn : Φ.L = none ∨ i ≠ 0) (hd : δ[i]? = some (.ow d)) (hv : σ[i]? = some (some (.ref a))) (k : ∀ b o, b ≠ a → H b = some o → H' b = some o)
    (ha : ∃ o, H' a = some o) : Rl Φ X0 (δ.set i .no) σ H' := by
  have oa : OwnAt δ σ i a := ⟨⟨d, hd⟩, hv⟩
  obtain ⟨r1, g1⟩ := r.drop hn (some (.ref a))
  rw [set_get_self hv] at r1 g1
  have na : ¬ Own (δ.set i .no) σ a := by
    rintro ⟨j, ⟨e, h1⟩, h2⟩
    rcases get_set h1 with ⟨e1, e2⟩ | ⟨e1, e2⟩
    · cases e2
    · exact e1 (r.inj j i a ⟨⟨e, e2⟩, h2⟩ oa)
  have F0 := r.own a ⟨i, oa⟩
  have nB : ¬ Φ.B a := fun z => by
    have hL := r.bf a z F0
    have := r.inj 0 i a (r.lent a hL) oa
    rcases hn with q | q
    · rw [q] at hL; cases hL
    · exact q this.symm
  have g : Gr (gG Φ X0 δ σ H) (gG Φ X0 (δ.set i .no) σ H') := hid_gr (fun b o e h => by
    rcases h with h | h | ⟨j, ⟨e', h1⟩, h2⟩
    · exact h.elim
    · exact .inr (.inl h)
    · rcases get_set h1 with ⟨e1, e2⟩ | ⟨e1, e2⟩
      · cases e2
      · exact .inr (.inr ⟨j, ⟨e', e2⟩, h2⟩)) fun b o n e => k b o (fun z => n (by rw [z]; exact .inr (.inr ⟨i, oa⟩))) e
  refine ⟨r1.len, fun b u e => k b u (fun z => by rw [z, F0] at e; cases e) (r.fix b u e), r1.inj, r1.own, fun j e q => ?_, fun j e q => ?_, r1.lent, fun b q => ?_, fun b q => q.elim, r.bf⟩
  · rcases get_set q with ⟨e1, e2⟩ | ⟨e1, e2⟩
    · cases e2
    · obtain ⟨v, e3, e4⟩ := r.im j e e2
      exact ⟨v, e3, e4.mono g⟩
  · rcases get_set q with ⟨e1, e2⟩ | ⟨e1, e2⟩
    · cases e2
    · obtain ⟨b, e3, u, e4, e5⟩ := r.ow j e e2
      refine ⟨b, e3, u, k b u ?_ e4, e5.mono g⟩
      rintro rfl
      exact e1 (r.inj j i b ⟨⟨e, e2⟩, e3⟩ oa)
  · obtain ⟨u, e⟩ := r.bd b q
    exact ⟨u, k b u (fun z => nB (z ▸ q)) e⟩

/-- a row of values that stand -/
def ValsOk (Φ : Fr) (σ : L2.St) (δ : Ds) (H : Hp) : List Rv → List V → Prop
  | [], vs => vs = []
  | r :: rs, vs => ∃ v us, vs = v :: us ∧ ValOk Φ σ δ H r v ∧ ValsOk Φ σ δ H rs us
theorem ValsOk.step {δ1 : Ds} {H1 : Hp} (g : Gr (gG Φ X0 δ σ H) (gG Φ X0 δ1 σ H1)) : ∀ {rs : List Rv} {vs : List V}, ValsOk Φ σ δ H rs vs → ValsOk Φ σ δ1 H1 rs vs
  | [], _, h => h
  | r :: rs, _, ⟨v, us, e, h1, h2⟩ => ⟨v, us, e, h1.step g, ValsOk.step g h2⟩
/-- slots that are lent to be read -/
def LR (rs : List Rv) (δ : Ds) (σ : L2.St) (a : Addr) : Prop := ∃ i, Rv.pk i ∈ rs ∧ OwnAt δ σ i a
theorem lends_no : ∀ {rs : List Rv}, lends rs δ = false → ∀ a, ¬ LR rs δ σ a
  | [], _, a, ⟨i, h, _⟩ => by cases h
  | .im d :: rs, e, a, ⟨i, h, o⟩ => by
    simp only [lends] at e
    rcases List.mem_cons.mp h with h | h
    · cases h
    · exact lends_no e a ⟨i, h, o⟩
  | .fr d :: rs, e, a, ⟨i, h, o⟩ => by
    simp only [lends] at e
    rcases List.mem_cons.mp h with h | h
    · cases h
    · exact lends_no e a ⟨i, h, o⟩
  | .pk j :: rs, e, a, ⟨i, h, o⟩ => by
    simp only [lends] at e
    split at e
    · cases e
    · rename_i n
      rcases List.mem_cons.mp h with h | h
      · cases h
        obtain ⟨⟨d, hd⟩, _⟩ := o
        exact n d hd
      · exact lends_no e a ⟨i, h, o⟩
/-- the data of a row of values, where what is lent is seen -/
theorem ValsOk.reps (R : Rl Φ X0 δ σ H) {S : Addr → Prop} (rs0 : List Rv) (hS : ∀ a, S a → Hd Φ X0 δ σ a ∧ ¬ LR rs0 δ σ a) : ∀ {rs : List Rv} {vs : List V} {ds : List D}, (∀ r ∈ rs, r ∈ rs0) → ValsOk Φ σ δ H rs vs → looks rs δ = some ds → Reps Φ.R (hid H S) ds vs
  | [], _, _, _, h, e => by
    cases e
    have h' : _ = [] := h
    rw [h']
    exact Reps.nil
  | r :: rs, _, ds, hm, ⟨v, us, e, h1, h2⟩, e2 => by
    subst e
    simp only [looks] at e2
    split at e2
    · rename_i d ds' ed eds
      cases e2
      refine Reps.cons ?_ (ValsOk.reps R rs0 hS (fun r hr => hm r (List.mem_cons_of_mem _ hr)) h2 eds)
      have gS : Gr (gG Φ X0 δ σ H) (hid H S) := hid_gr (fun a o _ q => (hS a q).1) fun a o _ q => q
      cases r with
      | im d' =>
        cases ed
        have h1' : Rep Φ.R (gG Φ X0 δ σ H) d v := h1
        exact h1'.mono gS
      | fr d' => exact h1.elim
      | pk i =>
        have hv : σ[i]? = some (some v) := h1
        simp only [look] at ed
        split at ed
        · rename_i d' q
          cases ed
          obtain ⟨a, e1, o, e2, e3⟩ := R.ow i d q
          rw [hv] at e1
          cases e1
          refine (e3.mono gS).rep (.inl ?_)
          rw [hid_out]
          · exact e2
          · intro z
            exact (hS a z).2 ⟨i, hm _ List.mem_cons_self, ⟨d, q⟩, hv⟩
        · rename_i d' q
          cases ed
          obtain ⟨w, e1, e2⟩ := R.im i d q
          rw [hv] at e1
          cases e1
          exact e2.mono gS
        · cases ed
    · cases e2
theorem Rl.args {Ψ : Fr} {ds : List D} {vs : List V} (hL : Ψ.L = none) (hF : ∀ a o, Ψ.F a = some o → H a = some o) (hb : ∀ b, Ψ.B b → ∃ o, H b = some o) (hbf : ∀ b, Ψ.B b → Ψ.F b = none → Ψ.L = some b)
    (h : Reps Ψ.R (hid H Ψ.B) ds vs) : Rl Ψ X0 (ds.map .im) (vs.map some) H := by
  have no : ∀ i a, ¬ OwnAt (ds.map Sl.im) (vs.map some) i a := by
    rintro i a ⟨⟨d, h1⟩, _⟩
    rw [List.getElem?_map] at h1
    cases q : ds[i]? with
    | none => rw [q] at h1; cases h1
    | some x => rw [q] at h1; cases h1
  have g : Gr (hid H Ψ.B) (gG Ψ X0 (ds.map .im) (vs.map some) H) := hid_gr (fun a o _ q => by
    rcases q with q | q | ⟨i, q⟩
    · exact q.elim
    · exact q
    · exact absurd q (no i a)) fun a o _ q => q
  refine ⟨by rw [List.length_map, List.length_map]; exact h.length, hF, fun i j a q => absurd q (no i a), fun a ⟨i, q⟩ => absurd q (no i a), fun i d q => ?_, fun i d q => ?_, (fun a q => by rw [hL] at q; cases q), hb, fun a q => q.elim, hbf⟩
  · rw [List.getElem?_map] at q
    cases z : ds[i]? with
    | none => rw [z] at q; cases q
    | some x =>
      rw [z] at q
      cases q
      obtain ⟨v, e1, e2⟩ := h.get z
      exact ⟨v, by rw [List.getElem?_map, e1]; rfl, e2.mono g⟩
  · rw [List.getElem?_map] at q
    cases z : ds[i]? with
    | none => rw [z] at q; cases q
    | some x => rw [z] at q; cases q
theorem drop_ims (ds : List D) : ((ds.map Sl.im).drop 1).any isOw = false := by
  rw [← List.map_drop]
  rw [List.any_eq_false]
  intro s hs
  obtain ⟨d, _, rfl⟩ := List.mem_map.mp hs
  simp [isOw]
theorem lent_ims (ds : List D) : lentOf (ds.map Sl.im) = false := by
  cases ds <;> rfl
end
/-- a wish for exceptions, as the library's -/
def Wk (ad : Nat → Addr) (E : Wx) : WX := fun cls d σ H => ∃ c, cls = .ref (ad c) ∧ d = none ∧ E σ c H
def callO (lt : Bool) (δ : Ds) (rs : List Rv) : FOut → Oc Rv
  | .ret r _ => if lends rs δ && !flatR r then .bad else .ok r δ
  | .ex c => .ex c δ
  | .bad => .bad
/-- f(..): from the caller's wish to the def's promise -/
theorem call_in {Φ : Fr} {δ : Ds} {σ : L2.St} {H : Hp} {E : Wx} {Q : VK} {g : List Sl → FOut} {rs : List Rv} {ds : List D} {vs : List V} {lt : Bool} (R : Rl Φ X0 δ σ H) (hv : ValsOk Φ σ δ H rs vs) (hd : looks rs δ = some ds)
    (p : PostE Φ E σ (gG Φ X0 δ σ H) (callO lt δ rs (g (ds.map .im))) Q) : spF Φ.R g vs H Q (WE (Wk Φ.R.ad E) σ) := by
  let B : Addr → Prop := fun a => Hd Φ X0 δ σ a ∧ ¬ LR rs δ σ a
  refine ⟨⟨Φ.R, less H none, B, none⟩, ds.map .im, rfl, rfl, drop_ims ds, lent_ims ds, Rl.args rfl (fun a o (e : less H none a = some o) => (less_some e).2) (fun b hb => R.hdD hb.1) (fun b hb (e : less H none b = none) => ?_) (hv.reps R rs (fun a h => h) (fun r h => h) hd), ?_⟩
  · rcases less_none e with z | z
    · cases z
    · obtain ⟨o, q⟩ := R.hdD hb.1
      rw [z] at q; cases q
  · cases hg : g (ds.map .im) with
    | bad => rw [hg] at p; exact p
    | ex c =>
      rw [hg] at p
      intro H' h1 h2
      exact ⟨c, rfl, rfl, p H' (R.after (S := X0) (fun a o e => h1 a o (less_of (L := none) (fun z => nomatch z) e)) fun a h => h.elim).1⟩
    | ret r l =>
      rw [hg] at p
      intro v H' ok
      obtain ⟨h1, h2⟩ := ok
      have keep : ∀ a o, H a = some o → H' a = some o := fun a o e => h1 a o (less_of (L := none) (fun z => nomatch z) e)
      have p : PostE Φ E σ (gG Φ X0 δ σ H) (if lends rs δ && !flatR r then .bad else .ok r δ) Q := p
      split at p
      · exact p.elim
      · rename_i hf
        have hf : lends rs δ = false ∨ flatR r = true := by
          cases e1 : lends rs δ with
          | false => exact .inl rfl
          | true => rw [e1] at hf; right; simpa using hf
        refine p v H' ?_
        -- what is seen behind the call
        have gT : ∀ (X : Addr → Prop) (a : Addr) (vs : List V), (∀ b, X b → Hd Φ X0 δ σ b → False) → SqT Φ.R.K (hid H' fun b => B b ∨ X b) a vs → SqT Φ.R.K (hid H' fun b => Hd Φ X0 δ σ b ∨ X b) a vs := fun X a us _ h => by
          rcases h with h | h
          · refine .inl ?_
            have key : ∀ o, (hid H' fun b => B b ∨ X b) a = some o → ((∃ ws, o = .tup ws) ∨ ∃ ob ws, o = .frz ob (.tup ws)) → (hid H' fun b => Hd Φ X0 δ σ b ∨ X b) a = some o := fun o e ho => by
              obtain ⟨n, e1⟩ := hid_some e
              rw [hid_out]
              · exact e1
              · rintro (z | z)
                · apply n
                  refine .inl ⟨z, ?_⟩
                  rintro ⟨i, _, ⟨d, q1⟩, q2⟩
                  obtain ⟨b, e2, u, e3, e4⟩ := R.ow i d q1
                  rw [q2] at e2
                  cases e2
                  rw [keep a u e3] at e1
                  cases e1
                  obtain ⟨t1, t2⟩ := e4.notTup
                  rcases ho with ⟨ws, ho⟩ | ⟨ob, ws, ho⟩
                  · exact t1 ws ho
                  · exact t2 ob ws ho
                · exact n (.inr z)
            rcases h with h | ⟨ob, h⟩
            · exact .inl (key _ h (.inl ⟨_, rfl⟩))
            · exact .inr ⟨ob, key _ h (.inr ⟨ob, _, rfl⟩)⟩
          · exact .inr h
        cases r with
        | pk i => exact h2.elim
        | im d =>
          obtain ⟨R1, g1⟩ := R.after (S := X0) keep fun a h => h.elim
          refine ⟨R1, g1, ?_⟩
          have h3 : Rep Φ.R (hid H' B) d v := h2.1
          rcases hf with hf | hf
          · exact h3.mono (hid_gr (fun a o _ q => ⟨q, lends_no hf a⟩) fun a o _ q => q)
          · have h3' : Rep Φ.R (hid H' fun b => B b ∨ False) d v := h3.mono (hid_gr (fun a o _ q => q.elim id False.elim) fun a o _ q => q)
            have h4 := Rep.flat (gT (fun _ => False) · · (fun _ z _ => z)) hf h3'
            exact h4.mono (hid_gr (fun a o _ q => .inl q) fun a o _ q => q)
        | fr d =>
          obtain ⟨q, rfl, hq, ⟨o, e1, e2⟩, _⟩ := h2
          have hS : ∀ a, X1 q a → H a = none ∧ ∃ o, H' a = some o := fun a h => by
            have h' : a = q := h
            rw [h']
            exact ⟨hq, o, e1⟩
          obtain ⟨R1, g1⟩ := R.after (S := X1 q) keep hS
          refine ⟨q, rfl, R1, g1, o, e1, ?_⟩
          have e2 : AtO Φ.R (hid H' fun b => B b ∨ b = q) q o d := e2
          have toG : Gr (hid H' fun b => Hd Φ X0 δ σ b ∨ b = q) (gG Φ (X1 q) δ σ H') := hid_gr (fun a o _ z => by
            rcases z with z | z
            · exact .inr z
            · exact .inl (.inr z)) fun a o _ z => z
          rcases hf with hf | hf
          · exact e2.mono ((hid_gr (fun a o _ z => by
              rcases z with z | z
              · exact .inl ⟨z, lends_no hf a⟩
              · exact .inr z) fun a o _ z => z : Gr _ (hid H' fun b => Hd Φ X0 δ σ b ∨ b = q)).trans toG)
          · have gt := fun a vs => gT (fun b => b = q) a vs (fun b z h => R.newHd hq (z ▸ h))
            refine AtO.mono toG ?_
            cases d with
            | lst ds' =>
              obtain ⟨ws, z1, z2⟩ := e2
              exact ⟨ws, z1, Reps.flat gt hf z2⟩
            | dic ks ds' =>
              obtain ⟨rows, z1, z2, ⟨ws, z3, z4⟩, ⟨us, z5, z6⟩⟩ := e2
              have hf : (flats ks && flats ds') = true := hf
              rw [Bool.and_eq_true] at hf
              exact ⟨rows, z1, z2, ⟨ws, z3, Reps.flat gt hf.1 z4⟩, ⟨us, z5, Reps.flat gt hf.2 z6⟩⟩
            | _ => exact e2.elim
/-! ### a def that changes its first argument -/
theorem Rl.argsW {Ψ : Fr} {ds : List D} {vs : List V} {H : Hp} {a : Addr} {d : D} (hL : Ψ.L = some a) (hF : ∀ b o, Ψ.F b = some o → H b = some o) (hFa : Ψ.F a = none) (hBa : Ψ.B a) (hb : ∀ b, Ψ.B b → ∃ o, H b = some o)
    (hbf : ∀ b, Ψ.B b → Ψ.F b = none → Ψ.L = some b) (hd : At Ψ.R (hid H Ψ.B) H a d) (h : Reps Ψ.R (hid H Ψ.B) ds vs) : Rl Ψ X0 (.ow d :: ds.map .im) ((V.ref a :: vs).map some) H := by
  have at_ : ∀ i b, OwnAt (Sl.ow d :: ds.map Sl.im) ((V.ref a :: vs).map some) i b → i = 0 ∧ b = a := by
    rintro i b ⟨⟨e, h1⟩, h2⟩
    cases i with
    | zero =>
      rw [List.map_cons, List.getElem?_cons_zero] at h2
      cases h2
      exact ⟨rfl, rfl⟩
    | succ i =>
      rw [List.getElem?_cons_succ, List.getElem?_map] at h1
      cases q : ds[i]? with
      | none => rw [q] at h1; cases h1
      | some x => rw [q] at h1; cases h1
  have g : Gr (hid H Ψ.B) (gG Ψ X0 (.ow d :: ds.map .im) ((V.ref a :: vs).map some) H) := hid_gr (fun b o _ q => by
    rcases q with q | q | ⟨i, q⟩
    · exact q.elim
    · exact q
    · rw [(at_ i b q).2]; exact hBa) fun b o _ q => q
  refine ⟨by rw [List.length_cons, List.length_map, List.length_map, List.length_cons, h.length], hF, fun i j b q r => by rw [(at_ i b q).1, (at_ j b r).1], fun b ⟨i, q⟩ => by rw [(at_ i b q).2]; exact hFa, fun i e q => ?_, fun i e q => ?_, fun b q => ?_, hb, fun b q => q.elim, hbf⟩
  · cases i with
    | zero => rw [List.getElem?_cons_zero] at q; cases q
    | succ i =>
      rw [List.getElem?_cons_succ, List.getElem?_map] at q
      cases z : ds[i]? with
      | none => rw [z] at q; cases q
      | some x =>
        rw [z] at q
        cases q
        obtain ⟨v, e1, e2⟩ := h.get z
        exact ⟨v, by rw [List.map_cons, List.getElem?_cons_succ, List.getElem?_map, e1]; rfl, e2.mono g⟩
  · cases i with
    | zero =>
      rw [List.getElem?_cons_zero] at q
      cases q
      obtain ⟨o, z1, z2⟩ := hd
      exact ⟨a, rfl, o, z1, z2.mono g⟩
    | succ i =>
      rw [List.getElem?_cons_succ, List.getElem?_map] at q
      cases z : ds[i]? with
      | none => rw [z] at q; cases q
      | some x => rw [z] at q; cases q
  · rw [hL] at q
    cases q
    exact ⟨⟨d, rfl⟩, rfl⟩
theorem drop_own (d : D) (ds : List D) : ((Sl.ow d :: ds.map Sl.im).drop 1).any isOw = false := by
  show (ds.map Sl.im).any isOw = false
  rw [List.any_eq_false]
  intro s hs
  obtain ⟨d, _, rfl⟩ := List.mem_map.mp hs
  simp [isOw]
def callWO (lt : Bool) (i : Nat) (δ : Ds) : FOut → Oc Rv
  | .ret r l => .ok r (δ.set i (.ow l))
  | .ex c => if lt && i == 0 then .bad else .ex c (δ.set i .no)
  | .bad => .bad
theorem callW_in {Φ : Fr} {δ : Ds} {σ : L2.St} {H : Hp} {E : Wx} {Q : VK} {g : List Sl → FOut} {rs : List Rv} {ds : List D} {vs : List V} {lt : Bool} {i : Nat} {d : D} {v0 : V} (R : Rl Φ X0 δ σ H) (hlt : Φ.L.isSome = lt)
    (hv : ValsOk Φ σ δ H rs vs) (hd : looks rs δ = some ds) (hn : lends rs δ = false) (hi : δ[i]? = some (.ow d)) (h0 : σ[i]? = some (some v0))
    (p : PostE Φ E σ (gG Φ X0 δ σ H) (callWO lt i δ (g (.ow d :: ds.map .im))) Q) : spF Φ.R g (v0 :: vs) H Q (WE (Wk Φ.R.ad E) σ) := by
  obtain ⟨a, e0, o0, ho0, hc0⟩ := R.ow i d hi
  rw [h0] at e0
  cases e0
  have oa : OwnAt δ σ i a := ⟨⟨d, hi⟩, h0⟩
  have hr : Reps Φ.R (gG Φ X0 δ σ H) ds vs := hv.reps R rs (fun b h => ⟨h, lends_no hn b⟩) (fun r h => h) hd
  refine ⟨⟨Φ.R, less H (some a), Hd Φ X0 δ σ, some a⟩, .ow d :: ds.map .im, rfl, rfl, drop_own d ds, rfl, Rl.argsW rfl (fun b o (e : less H (some a) b = some o) => (less_some e).2) ?_ (.inr (.inr ⟨i, oa⟩)) (fun b hb => R.hdD hb)
    (fun b hb (e : less H (some a) b = none) => ?_) ⟨o0, ho0, hc0⟩ hr, ?_⟩
  · show less H (some a) a = none
    unfold less
    rw [if_pos rfl]
  · rcases less_none e with z | z
    · exact z
    · obtain ⟨o, q⟩ := R.hdD hb
      rw [z] at q; cases q
  · have keep' : ∀ {H' : Hp}, (∀ b o, less H (some a) b = some o → H' b = some o) → ∀ b o, b ≠ a → H b = some o → H' b = some o := fun h b o n e => h b o (less_of (fun z => n (by cases z; rfl)) e)
    cases hg : g (.ow d :: ds.map .im) with
    | bad => rw [hg] at p; exact p
    | ex c =>
      rw [hg] at p
      intro H' h1 h2
      have p : PostE Φ E σ (gG Φ X0 δ σ H) (if lt && i == 0 then .bad else .ex c (δ.set i .no)) Q := p
      split at p
      · exact p.elim
      · rename_i hz
        exact ⟨c, rfl, rfl, p H' (R.afterX (hl_of hlt (by simpa using hz)) hi h0 (keep' h1) (h2 a (.inr (.inr ⟨i, oa⟩))))⟩
    | ret r l =>
      rw [hg] at p
      intro v H' ok
      obtain ⟨h1, h2⟩ := ok
      refine p v H' ?_
      cases r with
      | pk j => exact h2.elim
      | im e =>
        obtain ⟨h3, h4⟩ := h2
        have h4 := h4 a rfl
        obtain ⟨ol, l1, l2⟩ := h4
        obtain ⟨R1, g1⟩ := R.afterW (S := X0) hi h0 (keep' h1) (fun b h => h.elim) (l := l) ⟨ol, l1, l2.mono (hid_gr (fun b o _ q => q.elim id False.elim) fun b o _ q => q)⟩
        refine ⟨R1, g1, ?_⟩
        have h3 : Rep Φ.R (hid H' (Hd Φ X0 δ σ)) e v := h3
        refine h3.mono (hid_gr (fun b o _ q => ?_) fun b o _ q => q)
        rcases q with q | q | ⟨j, ⟨e', q1⟩, q2⟩
        · exact q.elim
        · exact .inr (.inl q)
        · rcases get_set q1 with ⟨z1, z2⟩ | ⟨z1, z2⟩
          · exact .inr (.inr ⟨j, ⟨d, by rw [z1]; exact hi⟩, q2⟩)
          · exact .inr (.inr ⟨j, ⟨e', z2⟩, q2⟩)
      | fr e =>
        obtain ⟨q, rfl, hq, ⟨o, e1, e2⟩, h4⟩ := h2
        have h4 := h4 a rfl
        have hS : ∀ b, X1 q b → H b = none ∧ ∃ o, H' b = some o := fun b h => by
          have h' : b = q := h
          rw [h']
          exact ⟨hq, o, e1⟩
        obtain ⟨R1, g1⟩ := R.afterW (S := X1 q) hi h0 (keep' h1) hS (l := l) h4
        refine ⟨q, rfl, R1, g1, o, e1, ?_⟩
        have e2 : AtO Φ.R (hid H' fun b => Hd Φ X0 δ σ b ∨ b = q) q o e := e2
        refine e2.mono (hid_gr (fun b o _ z => ?_) fun b o _ z => z)
        rcases z with z | z | ⟨j, ⟨e', q1⟩, q2⟩
        · exact .inr z
        · exact .inl (.inr (.inl z))
        · rcases get_set q1 with ⟨z1, z2⟩ | ⟨z1, z2⟩
          · exact .inl (.inr (.inr ⟨j, ⟨d, by rw [z1]; exact hi⟩, q2⟩))
          · exact .inl (.inr (.inr ⟨j, ⟨e', z2⟩, q2⟩))
end EL

set_option Elab.async false
set_option linter.all false
set_option maxRecDepth 100000
set_option maxHeartbeats 1000000
/-! the rules of the language's expressions, one by one -/
namespace EL
open PySem PySem.Spec PyProof.Rows L2

/-! ### what is read off the syntax -/
def isStar : Expr → Bool
  | .Starred .. => true
  | _ => false
theorem star_no {e : Expr} (h : isStar e = false) (es : List Expr) (env : Env) : starEach (e :: es) env = (false, eval e env) :: starEach es env := by
  cases e <;> first | rfl | exact absurd h (by simp [isStar])
def isCompE : Expr → Bool
  | .ListComp .. => true
  | .SetComp .. => true
  | .DictComp .. => true
  | _ => false
theorem swaps_no {e : Expr} (h : isCompE e = false) (t : Option Expr) (l : Nat) (env : Env) : swapsWith e t l env = pure false := by
  cases e <;> first | rfl | exact absurd h (by simp [isCompE])
def isTestE : Expr → Bool
  | .UnaryOp .Not _ _ => true
  | .BoolOp .. => true
  | .IfExp .. => true
  | .Compare .. => true
  | _ => false
theorem test_plain {e : Expr} (h : isTestE e = false) (env : Env) (whole : Sem Value) : isTrue e env whole = (do let v ← whole; standAt e.pos; holding [v] (truthy v)) := by
  cases e with
  | UnaryOp op x pos => cases op <;> first | rfl | exact absurd h (by simp [isTestE])
  | _ => first | rfl | exact absurd h (by simp [isTestE])
def isSliceE : Expr → Bool
  | .Slice .. => true
  | _ => false
theorem ix_plain {b : Expr} (h : isSliceE b = false) : PlainIx b := by
  intro o i
  cases b <;> first | rfl | exact absurd h (by simp [isSliceE])
def isSetE : Expr → Bool
  | .Set .. => true
  | _ => false
theorem folded_no {e : Expr} (h : isSetE e = false) (env : Env) (x : Value) : foldedSetIterable e env x = pure x := by
  cases e <;> first | rfl | exact absurd h (by simp [isSetE])
def isNameE : Expr → Bool
  | .Name .. => true
  | _ => false
theorem base_name {e : Expr} (h : isNameE e = true) (a : Str) (env : Env) (whole : Sem Value) : attributeBase e a env whole = whole := by
  cases e <;> first | rfl | exact absurd h (by simp [isNameE])
theorem back_any (pos : Pos) (env : Env) : ∀ {es : List Expr}, es.all (fun e => !isStar e) = true → (backTo pos (starEach es env)).any (·.1) = false
  | [], _ => rfl
  | e :: es, h => by
    rw [List.all_cons, Bool.and_eq_true] at h
    have h1 : isStar e = false := by simpa using h.1
    rw [star_no h1]
    show (false || (backTo pos (starEach es env)).any (·.1)) = false
    rw [back_any pos env h.2] <;> rfl

def visB (sc : Scope) (x : Str) : Bool := match sc.names.lookup x with
  | some .local => true
  | some .cell => true
  | some .free => true
  | _ => false
theorem vis_of {sc : Scope} {x : Str} (h : visB sc x = true) : Vis sc x := by
  unfold visB at h
  split at h <;> first | exact .inl ‹_› | exact .inr (.inl ‹_›) | exact .inr (.inr ‹_›) | cases h
def glB (sc : Scope) (x : Str) : Bool := match sc.names.lookup x with
  | some .globalImplicit => true
  | _ => false
theorem gl_of {X : Cx} {x : Str} (h : glB X.env.scope x = true) : Gl X x := by
  unfold glB at h
  split at h
  · rename_i q
    exact q
  · cases h
def okNm (x : Str) : Bool := !(x == ("__debug__" : Str)) && !(x == ("__classdict__" : Str)) && !(x == ("__name__" : Str))
theorem okNm_dbg {x : Str} (h : okNm x = true) : (x == ("__debug__" : Str)) = false := by
  unfold okNm at h
  simp only [Bool.and_eq_true, Bool.not_eq_true'] at h
  exact h.1.1
theorem okNm_cd {x : Str} (h : okNm x = true) : (x == ("__classdict__" : Str)) = false := by
  unfold okNm at h
  simp only [Bool.and_eq_true, Bool.not_eq_true'] at h
  exact h.1.2
theorem okNm_nm {x : Str} (h : okNm x = true) : x ≠ ("__name__" : Str) := by
  unfold okNm at h
  simp only [Bool.and_eq_true, Bool.not_eq_true'] at h
  exact beq_eq_false_iff_ne.mp h.2

/-! ### names, constants -/
section
variable {X : Cx} {ad : Nat → Addr} {lt : Bool} {E : Wx} {C : Cn} {e a b c : Expr} {pos : Pos} {m : ME}
theorem e_var {i : Nat} {x : Str} (hN : X.N[i]? = some x) (hv : visB X.env.scope x = true) (hx : okNm x = true) : PE X (.Name x pos) (rdE (rc X ad) lt E (evE C (.var i))) := by
  refine PE.imp (pe_var (i := i) hN (vis_of hv) (okNm_dbg hx) (okNm_cd hx)) fun σ H Q h => ?_
  obtain ⟨Φ, δ, e1, e2, R0, p⟩ := h
  simp only [evE] at p
  split at p
  · rename_i d q
    obtain ⟨v, h1, h2⟩ := R0.im i d q
    exact ⟨v, h1, p v H ⟨R0, Gr.refl _, h2⟩⟩
  · rename_i d q
    obtain ⟨a, h1, o, h2, h3⟩ := R0.ow i d q
    exact ⟨.ref a, h1, p _ H ⟨R0, Gr.refl _, h1⟩⟩
  · exact p.elim
theorem e_sc {d : D} {v : V} (h : PE X e (tC v)) (hd : scV d = some v) : PE X e (rdE (rc X ad) lt E (evE C (.cst d))) := by
  refine PE.imp h fun σ H Q h => ?_
  obtain ⟨Φ, δ, e1, e2, R0, p⟩ := h
  exact post_sc R0 p hd
theorem e_glb {g : Nat} {x : Str} {u : Value} {v : V} (hg : glB X.env.scope x = true) (hm : X.mg x = some u) (r : RelV v u) (hr : Rep (rc X ad) (fun _ => none) (C.glob g) v) (hx : okNm x = true) :
    PE X (.Name x pos) (rdE (rc X ad) lt E (evE C (.glb g))) := by
  refine PE.imp (pe_glob (gl_of hg) hm r (okNm_dbg hx)) fun σ H Q h => ?_
  obtain ⟨Φ, δ, e1, e2, R0, p⟩ := h
  refine p v H ⟨R0, Gr.refl _, ?_⟩
  rw [e1]
  exact hr.mono (Gr.of fun a o e => by cases e)

/-! ### rows of values -/
def PostA (Φ : Fr) (E : Wx) (σ : L2.St) (G0 : Hp) (o : Oc (List Rv)) (Q : List V → Hp → Prop) : Prop := match o with
  | .bad => False
  | .ex c δ => ∀ H, Rl Φ X0 δ σ H → E σ c H
  | .ok rs δ => ∀ vs H, Rl Φ X0 δ σ H → Gr G0 (gG Φ X0 δ σ H) → ValsOk Φ σ δ H rs vs → Q vs H
def rdA (R : RC) (lt : Bool) (E : Wx) (f : Ds → Oc (List Rv)) : TA := fun σ H Q => ∃ Φ δ, Φ.R = R ∧ Φ.L.isSome = lt ∧ Rl Φ X0 δ σ H ∧ PostA Φ E σ (gG Φ X0 δ σ H) (f δ) Q
theorem PostA.weak {Φ : Fr} {σ : L2.St} {G0 G1 : Hp} {o : Oc (List Rv)} {Q : List V → Hp → Prop} (g : Gr G0 G1) (h : PostA Φ E σ G0 o Q) : PostA Φ E σ G1 o Q := by
  cases o with
  | ok r δ => exact fun v H R k => h v H R (g.trans k)
  | ex c δ => exact h
  | bad => exact h
theorem a_nil : PA X [] (rdA (rc X ad) lt E (evL C .nil)) := by
  refine PA.imp pa_nil fun σ H Q h => ?_
  obtain ⟨Φ, δ, e1, e2, R0, p⟩ := h
  simp only [evL] at p
  exact p [] H R0 (Gr.refl _) rfl
theorem a_cons {x y : ME} {es : List Expr} (hlt : C.lt = lt) (he : PE X e (rdE (rc X ad) lt E (evE C x))) (hs : PA X es (rdA (rc X ad) lt E (evL C y))) (st : isStar e = false) :
    PA X (e :: es) (rdA (rc X ad) lt E (evL C (.cons x y))) := by
  refine PA.imp (pa_cons he hs (star_no st es X.env)) fun σ H Q h => ?_
  obtain ⟨Φ, δ, e1, e2, R0, p⟩ := h
  refine ⟨Φ, δ, e1, e2, R0, ?_⟩
  simp only [evL] at p
  cases hf : evE C x δ with
  | bad => rw [hf] at p; exact p
  | ex c δ1 => rw [hf] at p; exact p
  | ok r δ1 =>
    rw [hf] at p
    intro v H1 ok
    obtain ⟨R1, g1, v1⟩ := ok.rl
    simp only [Oc.bind] at p
    have hz : froz C.lt r δ1 = froz C.lt r.seen δ1 := by cases r <;> rfl
    rw [hz] at p
    cases hq : froz C.lt r.seen δ1 with
    | bad => rw [hq] at p; exact p.elim
    | ex c δ2 => rw [hq] at p; exact p.elim
    | ok d δ2 =>
      rw [hq] at p
      obtain ⟨R2, g2, v2⟩ := v1.froz (hlt ▸ e2) R1 hq
      refine ⟨Φ, δ2, e1, e2, R2, ?_⟩
      have p : PostA Φ E σ (gG Φ X0 δ2 σ H1) ((evL C y δ2).bind fun rs δ3 => .ok (.im d :: rs) δ3) Q := PostA.weak (g1.trans g2) p
      cases hl : evL C y δ2 with
      | bad => rw [hl] at p; exact p
      | ex c δ3 => rw [hl] at p; exact p
      | ok rs δ3 =>
        rw [hl] at p
        intro vs H3 R3 g3 v3
        exact p (v :: vs) H3 R3 g3 ⟨v, vs, rfl, ValOk.step (r := .im d) v2 g3, v3⟩
theorem a_rd {i : Nat} {x : Str} {y : ME} {es : List Expr} (hN : X.N[i]? = some x) (hv : visB X.env.scope x = true) (hx : okNm x = true) (hs : PA X es (rdA (rc X ad) lt E (evL C y))) :
    PA X (.Name x pos :: es) (rdA (rc X ad) lt E (evL C (.rd i y))) := by
  refine PA.imp (pa_cons (pe_var (i := i) hN (vis_of hv) (okNm_dbg hx) (okNm_cd hx)) hs (star_no rfl es X.env)) fun σ H Q h => ?_
  obtain ⟨Φ, δ, e1, e2, R0, p⟩ := h
  simp only [evL] at p
  have go : ∀ v, σ[i]? = some (some v) → PostA Φ E σ (gG Φ X0 δ σ H) ((evL C y δ).bind fun rs δ1 => .ok (.pk i :: rs) δ1) Q → tCons (tVar i) (rdA (rc X ad) lt E (evL C y)) σ H Q := fun v hv p => by
    refine ⟨v, hv, Φ, δ, e1, e2, R0, ?_⟩
    cases hl : evL C y δ with
    | bad => rw [hl] at p; exact p
    | ex c δ3 => rw [hl] at p; exact p
    | ok rs δ3 =>
      rw [hl] at p
      intro vs H3 R3 g3 v3
      exact p (v :: vs) H3 R3 g3 ⟨v, vs, rfl, hv, v3⟩
  split at p
  · rename_i d q
    obtain ⟨v, h1, _⟩ := R0.im i d q
    exact go v h1 p
  · rename_i d q
    obtain ⟨a, h1, _⟩ := R0.ow i d q
    exact go _ h1 p
  · exact p.elim
theorem ims_vals {Φ : Fr} {σ : L2.St} {δ : Ds} {H : Hp} : ∀ {rs : List Rv} {ds : List D} {vs : List V}, ims rs = some ds → ValsOk Φ σ δ H rs vs → Reps Φ.R (gG Φ X0 δ σ H) ds vs
  | [], _, _, e, h => by
    cases e
    have h' : _ = [] := h
    rw [h']
    exact Reps.nil
  | .im d :: rs, _, _, e, ⟨v, us, e2, h1, h2⟩ => by
    subst e2
    simp only [ims, Option.map_eq_some_iff] at e
    obtain ⟨ds, e3, rfl⟩ := e
    exact Reps.cons h1 (ims_vals e3 h2)
  | .pk i :: rs, _, _, e, _ => by cases e
  | .fr d :: rs, _, _, e, _ => by cases e
theorem e_tup {k : Nat} {es : List Expr} (ha : PA X es (rdA (rc X ad) lt E (evL C m))) : PE X (.Tuple es k pos) (rdE (rc X ad) lt E (evE C (.tup m))) := by
  refine PE.imp (pe_tup ha) fun σ H Q h => ?_
  obtain ⟨Φ, δ, e1, e2, R0, p⟩ := h
  refine ⟨Φ, δ, e1, e2, R0, ?_⟩
  simp only [evE] at p
  cases hl : evL C m δ with
  | bad => rw [hl] at p; exact p
  | ex c δ3 => rw [hl] at p; exact p
  | ok rs δ3 =>
    rw [hl] at p
    intro vs H3 R3 g3 v3
    simp only [Oc.bind] at p
    cases hi : ims rs with
    | none => rw [hi] at p; exact p.elim
    | some ds =>
      rw [hi] at p
      have p : PostE Φ E σ (gG Φ X0 δ σ H) (if decide (ds.length ≤ sizeLine) then .ok (.im (.tup ds)) δ3 else .bad) Q := p
      have hr := ims_vals hi v3
      split at p
      · rename_i hz
        have hz := of_decide_eq_true hz
        exact ⟨by rw [← hr.length]; exact hz, fun a ha => post_tup R3 (PostE.weak g3 p) hr ha⟩
      · exact p.elim
theorem e_lst {es : List Expr} (ha : PA X es (rdA (rc X ad) lt E (evL C m))) : PE X (.List es pos) (rdE (rc X ad) lt E (evE C (.lst m))) := by
  refine PE.imp (pe_lst ha) fun σ H Q h => ?_
  obtain ⟨Φ, δ, e1, e2, R0, p⟩ := h
  refine ⟨Φ, δ, e1, e2, R0, ?_⟩
  simp only [evE] at p
  cases hl : evL C m δ with
  | bad => rw [hl] at p; exact p
  | ex c δ3 => rw [hl] at p; exact p
  | ok rs δ3 =>
    rw [hl] at p
    intro vs H3 R3 g3 v3
    simp only [Oc.bind] at p
    cases hi : ims rs with
    | none => rw [hi] at p; exact p.elim
    | some ds =>
      rw [hi] at p
      have p : PostE Φ E σ (gG Φ X0 δ σ H) (if decide (ds.length ≤ sizeLine) then .ok (.fr (.lst ds)) δ3 else .bad) Q := p
      have hr := ims_vals hi v3
      split at p
      · rename_i hz
        have hz := of_decide_eq_true hz
        exact ⟨by rw [← hr.length]; exact hz, fun a ha => post_lst R3 (PostE.weak g3 p) hr ha⟩
      · exact p.elim

/-! ### operators -/
theorem e_bin2 {op : Operator} {r : R2} {k : Rv → Rv → Ds → Oc Rv} {x y : ME} {f : ME} (ho : OpR X (binaryOp op) r) (hs : ∀ σ H Q x y, St2 (rc X ad) lt E σ k x y H Q → r x y H Q)
    (hf : evE C f = ev2 (evE C x) (evE C y) k) (ha : PE X a (rdE (rc X ad) lt E (evE C x))) (hb : PE X b (rdE (rc X ad) lt E (evE C y))) : PE X (.BinOp a op b pos) (rdE (rc X ad) lt E (evE C f)) := by
  refine PE.imp (pe_op ho ha hb) fun σ H Q h => ?_
  rw [hf] at h
  exact rd2 h fun u v H1 q => hs σ H1 Q u v q
def b2B : B2 → Operator → Bool
  | .add, .Add => true
  | .sub, .Sub => true
  | .mul, .Mult => true
  | .fdiv, .FloorDiv => true
  | .mod, .Mod => true
  | .pow, .Pow => true
  | .shl, .LShift => true
  | .shr, .RShift => true
  | .and, .BitAnd => true
  | _, _ => false
theorem e_bin {o : B2} {op : Operator} {x y : ME} (h : b2B o op = true) (ha : PE X a (rdE (rc X ad) lt E (evE C x))) (hb : PE X b (rdE (rc X ad) lt E (evE C y))) : PE X (.BinOp a op b pos) (rdE (rc X ad) lt E (evE C (.bin o x y))) := by
  have hf : evE C (.bin o x y) = ev2 (evE C x) (evE C y) (kBin o) := by funext δ; simp only [evE]
  cases o <;> cases op <;> first | (cases h; done) | skip
  · exact e_bin2 op_add4 (fun _ _ _ _ _ q => s_add q) hf ha hb
  · exact e_bin2 op_sub (fun _ _ _ _ _ q => s_sub q) hf ha hb
  · exact e_bin2 op_mul (fun _ _ _ _ _ q => s_mul q) hf ha hb
  · exact e_bin2 op_fdivW (fun _ _ _ _ _ q => s_fdiv q) hf ha hb
  · exact e_bin2 op_mod (fun _ _ _ _ _ q => s_mod q) hf ha hb
  · exact e_bin2 op_pow (fun _ _ _ _ _ q => s_pow q) hf ha hb
  · exact e_bin2 op_shl (fun _ _ _ _ _ q => s_shl q) hf ha hb
  · exact e_bin2 op_shr (fun _ _ _ _ _ q => s_shr q) hf ha hb
  · exact e_bin2 op_and (fun _ _ _ _ _ q => s_and q) hf ha hb
theorem e_neg {x : ME} (ha : PE X a (rdE (rc X ad) lt E (evE C x))) : PE X (.UnaryOp .USub a pos) (rdE (rc X ad) lt E (evE C (.neg x))) := by
  refine PE.imp (pe_un un_neg ha) fun σ H Q h => ?_
  have hf : evE C (.neg x) = ev1 (evE C x) (k1 dNeg) := by funext δ; simp only [evE]
  rw [hf] at h
  exact rd1 h fun u H1 q => s_neg q
end
end EL

set_option Elab.async false
set_option linter.all false
set_option maxRecDepth 100000
set_option maxHeartbeats 1000000
/-! comparisons -/
namespace EL
open PySem PySem.Spec PyProof.Rows L2

/-! ### data as the library's data -/
mutual
theorem Rep.dp {R : RC} {H : Hp} : ∀ {d : D} {v : V}, layD d = true → Rep R H d v → Dp R.K H v (toP d)
  | .non, _, _, h => by rw [Rep.non_iff] at h; subst h; exact .non
  | .bl _, _, _, h => by rw [Rep.bl_iff] at h; subst h; exact .bl _
  | .int _, _, _, h => by rw [Rep.int_iff] at h; subst h; exact .int _
  | .str _, _, _, h => by rw [Rep.str_iff] at h; subst h; exact .str _
  | .tup ds, _, l, h => by
    rw [Rep.tup_iff] at h
    obtain ⟨a, vs, rfl, s, r⟩ := h
    simp only [toP]
    exact .tup s (Reps.dp (by simpa only [layD] using l) r)
  | .lst ds, _, l, h => by
    rw [Rep.lst_iff] at h
    obtain ⟨a, vs, rfl, s, r⟩ := h
    simp only [toP]
    exact .lst s (Reps.dp (by simpa only [layD] using l) r)
  | .obj _, _, l, _ => by simp only [layD] at l; cases l
  | .ty _, _, l, _ => by simp only [layD] at l; cases l
  | .dic _ _, _, l, _ => by simp only [layD] at l; cases l
  | .ins _ _, _, l, _ => by simp only [layD] at l; cases l
theorem Reps.dp {R : RC} {H : Hp} : ∀ {ds : List D} {vs : List V}, layDs ds = true → Reps R H ds vs → DpAll R.K H vs (toPs ds)
  | [], _, _, h => by rw [h.inv0]; simp only [toPs]; exact .nil
  | d :: ds, _, l, h => by
    obtain ⟨v, r, rfl, h1, h2⟩ := h.inv
    simp only [layDs, Bool.and_eq_true] at l
    simp only [toPs]
    exact .cons (Rep.dp l.1 h1) (Reps.dp l.2 h2)
end
mutual
theorem lay_toP : ∀ d : D, (toP d).canLay0 = layD d
  | .non => by simp only [toP, layD, PyData.canLay0]
  | .bl _ => by simp only [toP, layD, PyData.canLay0]
  | .int _ => by simp only [toP, layD, PyData.canLay0]
  | .str _ => by simp only [toP, layD, PyData.canLay0, PyData.strOk]
  | .tup ds => by simp only [toP, layD, PyData.canLay0]; exact lays_toP ds
  | .lst ds => by simp only [toP, layD, PyData.canLay0]; exact lays_toP ds
  | .obj _ => by simp only [toP, layD, PyData.canLay0]
  | .ty _ => by simp only [toP, layD, PyData.canLay0]
  | .dic _ _ => by simp only [toP, layD, PyData.canLay0]
  | .ins _ _ => by simp only [toP, layD, PyData.canLay0]
theorem lays_toP : ∀ ds : List D, PyData.canLayAll0 (toPs ds) = layDs ds
  | [] => by simp only [toPs, layDs, PyData.canLayAll0]
  | d :: ds => by simp only [toPs, layDs, PyData.canLayAll0]; rw [lay_toP d, lays_toP ds]
end
mutual
theorem dep_toP : ∀ d : D, layD d = true → (toP d).depth = depD d
  | .non, _ => by simp only [toP, depD, PyData.depth]
  | .bl _, _ => by simp only [toP, depD, PyData.depth]
  | .int _, _ => by simp only [toP, depD, PyData.depth]
  | .str _, _ => by simp only [toP, depD, PyData.depth]
  | .tup ds, l => by simp only [toP, depD, PyData.depth]; rw [deps_toP ds (by simpa only [layD] using l)]
  | .lst ds, l => by simp only [toP, depD, PyData.depth]; rw [deps_toP ds (by simpa only [layD] using l)]
  | .obj _, l => by simp only [layD] at l; cases l
  | .ty _, l => by simp only [layD] at l; cases l
  | .dic _ _, l => by simp only [layD] at l; cases l
  | .ins _ _, l => by simp only [layD] at l; cases l
theorem deps_toP : ∀ ds : List D, layDs ds = true → PyData.depthAll (toPs ds) = depDs ds
  | [], _ => by simp only [toPs, depDs, PyData.depthAll]
  | d :: ds, l => by
    simp only [layDs, Bool.and_eq_true] at l
    simp only [toPs, depDs, PyData.depthAll]
    rw [dep_toP d l.1, deps_toP ds l.2]
end
mutual
theorem eqv_toP : ∀ (a b : D), layD a = true → layD b = true → PyData.eqv (toP a) (toP b) = deq a b
  | .non, b, la, lb => by cases b <;> simp only [layD] at lb <;> simp only [toP, deq, PyData.eqv] <;> cases lb
  | .bl _, b, la, lb => by cases b <;> simp only [layD] at lb <;> simp only [toP, deq, PyData.eqv] <;> cases lb
  | .int _, b, la, lb => by cases b <;> simp only [layD] at lb <;> simp only [toP, deq, PyData.eqv] <;> cases lb
  | .str _, b, la, lb => by cases b <;> simp only [layD] at lb <;> simp only [toP, deq, PyData.eqv] <;> cases lb
  | .tup xs, b, la, lb => by
    simp only [layD] at la
    cases b with
    | tup ys => simp only [layD] at lb; simp only [toP, deq, PyData.eqv]; exact eqvs_toP xs ys la lb
    | _ => simp only [layD] at lb <;> simp only [toP, deq, PyData.eqv] <;> cases lb
  | .lst xs, b, la, lb => by
    simp only [layD] at la
    cases b with
    | lst ys => simp only [layD] at lb; simp only [toP, deq, PyData.eqv]; exact eqvs_toP xs ys la lb
    | _ => simp only [layD] at lb <;> simp only [toP, deq, PyData.eqv] <;> cases lb
  | .obj _, _, l, _ => by simp only [layD] at l; cases l
  | .ty _, _, l, _ => by simp only [layD] at l; cases l
  | .dic _ _, _, l, _ => by simp only [layD] at l; cases l
  | .ins _ _, _, l, _ => by simp only [layD] at l; cases l
theorem eqvs_toP : ∀ (a b : List D), layDs a = true → layDs b = true → PyData.eqvAll (toPs a) (toPs b) = deqs a b
  | [], [], _, _ => by simp only [toPs, deqs, PyData.eqvAll]
  | [], _ :: _, _, _ => by simp only [toPs, deqs, PyData.eqvAll]
  | _ :: _, [], _, _ => by simp only [toPs, deqs, PyData.eqvAll]
  | x :: xs, y :: ys, la, lb => by
    simp only [layDs, Bool.and_eq_true] at la lb
    simp only [toPs, deqs, PyData.eqvAll]
    rw [eqv_toP x y la.1 lb.1, eqvs_toP xs ys la.2 lb.2]
end
theorem eqOk_shaped {d : D} (h : eqOk d = true) : SeqAt.shaped (toP d) = true ∧ layD d = true := by
  unfold eqOk at h
  rw [Bool.and_eq_true] at h
  obtain ⟨h1, h2⟩ := h
  refine ⟨?_, h1⟩
  show ((toP d).canLay0 && decide ((toP d).depth ≤ 64)) = true
  rw [lay_toP, h1, dep_toP d h1]
  have := of_decide_eq_true h2
  rw [Bool.true_and]
  exact decide_eq_true (by omega)
theorem toPs_any (x : D) (lx : layD x = true) : ∀ ds : List D, layDs ds = true → ((toPs ds).any fun z => PyData.eqv z (toP x)) = dmem x ds
  | [], _ => by simp only [toPs]; rfl
  | d :: ds, l => by
    simp only [layDs, Bool.and_eq_true] at l
    simp only [toPs, List.any_cons, dmem]
    rw [eqv_toP d x l.1 lx, toPs_any x lx ds l.2]
    rfl

/-! ### < of data -/
inductive LexR (A : Around) (s : Shared) : List Value → List Value → Bool → Prop
  | nn : LexR A s [] [] false
  | nc {w : Value} {ws : List Value} : LexR A s [] (w :: ws) true
  | cn {v : Value} {vs : List Value} : LexR A s (v :: vs) [] false
  | eq {v w : Value} {vs ws : List Value} {r : Bool} : SeqAt.EqAt A s v w true → LexR A s vs ws r → LexR A s (v :: vs) (w :: ws) r
  | lt {v w : Value} {vs ws : List Value} {r : Bool} : SeqAt.EqAt A s v w false → (∀ (prog : Program) (w' : World) (E : Value → Shared → Prop) (Q : Value → Shared → Prop), Q (.bool r) s → wpAny (model prog w') A (richCompare .Lt v w) Q E s) →
      LexR A s (v :: vs) (w :: ws) r
section
open PySem.SeqAt
open PySem.AutoSeq1 (wpAny_loadPart')
open PySem.MeetsSeq PySem.MeetsSeq2 PySem.MeetsSeq3
theorem tuple_lt_lex (l b : Addr) (items items2 : Array Value) (n n2 : Nat) (dd dd2 : Option Addr) (sl sl2 : Array (Option Value)) (r : Bool) :
    Meets (Builtin.«tuple.__lt__» ⟨[.ref l, .ref b], []⟩)
      (fun A R s => s.heap.get? l = some { cls := .type "tuple", dict := dd, data := .seq items n, slots := sl } ∧ s.heap.get? b = some { cls := .type "tuple", dict := dd2, data := .seq items2 n2, slots := sl2 } ∧
        LexR A.in1 s items.toList items2.toList r ∧ R (.ok (.ret (.bool r))) s) :=
  .of_wp fun prog w A R s h => by
    obtain ⟨hp, g, d, tk, os⟩ := s
    obtain ⟨hl, hb, hx, h⟩ := h
    have f2 := AutoSeq1.sub_tuple_tuple
    wp_walk using wpAny_loadPart' hl, wpAny_loadPart' hb, wpAny_forIn_list _ (fun rest b s' => b.1 = none ∧ s' = ⟨hp, g, d, tk, os⟩ ∧ ∃ (vs ws : List Value), rest = vs.zip ws ∧ vs.length + items2.size = ws.length + items.size ∧ LexR A.in1 ⟨hp, g, d, tk, os⟩ vs ws r) _
    case turn =>
      rintro ⟨y, x⟩ rest b s' ⟨hb', rfl, vs, ws, hz, hlen, hX⟩
      cases hX with
      | nn => rw [List.zip_nil_left] at hz; cases hz
      | nc => rw [List.zip_nil_left] at hz; cases hz
      | cn => rw [List.zip_nil_right] at hz; cases hz
      | eq h1 h2 =>
        rw [List.zip_cons_cons] at hz
        injection hz with hyx hrest
        injection hyx with hy hx'
        subst hy hx'
        simp only [List.length_cons] at hlen
        refine wpAny_bind (h1 prog w _ _ ?_)
        wp_walk
        exact ⟨rfl, rfl, _, _, hrest, by omega, h2⟩
      | lt h1 h2 =>
        rw [List.zip_cons_cons] at hz
        injection hz with hyx hrest
        injection hyx with hy hx'
        subst hy hx'
        refine wpAny_bind (h1 prog w _ _ ?_)
        have h3 := h2 prog w
        wp_walk using h3
        exact ⟨_, rfl, by simpa using h⟩
    case fin =>
      rintro ⟨b1, b2⟩ s' ⟨hb', rfl, vs, ws, hz, hlen, hX⟩
      simp only at hb'
      subst hb'
      have hv : r = decide (items.size < items2.size) := by
        cases hX with
        | nn =>
          simp only [List.length_nil] at hlen
          exact (decide_eq_false (by omega)).symm
        | nc =>
          simp only [List.length_nil, List.length_cons] at hlen
          exact (decide_eq_true (by omega)).symm
        | cn =>
          simp only [List.length_nil, List.length_cons] at hlen
          exact (decide_eq_false (by omega)).symm
        | eq h1 h2 => rw [List.zip_cons_cons] at hz; cases hz
        | lt h1 h2 => rw [List.zip_cons_cons] at hz; cases hz
      rw [hv] at h
      wp_walk
      exact ⟨_, rfl, by simpa [Builtin.Tuple.tupleCompareSizes] using h⟩
    case h =>
      exact ⟨rfl, rfl, items.toList, items2.toList, rfl, by rw [Array.length_toList, Array.length_toList]; omega, hx⟩
end
theorem lt_tup_lex {prog : Program} {w : World} {A : Around} {E : Value → Shared → Prop} {s : Shared} {l b : Addr} {items items2 : Array Value} {r : Bool} {Q : Value → Shared → Prop} (hl : IsTup s.heap l items) (hb : IsTup s.heap b items2)
    (hx : LexR A.in1 s items.toList items2.toList r) (hu : A.units < cLine) (h : Q (.bool r) s) : wpAny (model prog w) A (richCompare .Lt (.ref l) (.ref b)) Q E s := by
  obtain ⟨⟨c1, d1, t1, s1⟩, ho1, hc1, n1, ht1⟩ := id hl
  obtain ⟨⟨c2, d2, t2, s2⟩, ho2, hc2, n2, ht2⟩ := id hb
  simp only at hc1 ht1 hc2 ht2
  subst hc1 ht1 hc2 ht2
  exact richCompare_meets_room (op := .Lt) ⟨_, ho1, rfl⟩ ⟨_, ho2, rfl⟩ PySem.F.slot_tuple_lt PySem.F.entry_tuple_lt (PySem.F.args_tuple_lt_2 _ _)
    (tuple_lt_lex l b items items2 n1 n2 d1 d2 s1 s2 r) ⟨ho1, ho2, hx, show Value.bool r ≠ Value.notImplemented ∧ Q (.bool r) s from ⟨(fun x => nomatch x), h⟩⟩ hu
end EL

set_option Elab.async false
set_option linter.all false
set_option maxRecDepth 100000
set_option maxHeartbeats 1000000
namespace EL
open PySem PySem.Spec PyProof.Rows L2

section
variable {X : Cx} {ad : Nat → Addr} {pins : List (Addr × Obj)} {σ : L2.St} {H : Hp} {s : Shared}
theorem eqAt_data (I : L2.Inv X pins σ H s) {a b : D} {A : Around} {x y : V} {v u : Value} (la : layD a = true) (lb : layD b = true) (ra : Rep (rc X ad) H a x) (rb : Rep (rc X ad) H b y) (rx : RelV x v) (ry : RelV y u)
    (hu : A.units + depD a < cLine) : SeqAt.EqAt A s v u (deq a b) := by
  obtain ⟨as, r1⟩ := Dp.reads I (toP a) x v (ra.dp la) rx
  obtain ⟨bs, r2⟩ := Dp.reads I (toP b) y u (rb.dp lb) ry
  have h := SeqAt.eqAt_reads (toP a) (toP b) A s v u as bs r1 r2 (by rw [lay_toP]; exact la) (by rw [lay_toP]; exact lb) (by
    rw [dep_toP a la]
    have := Nat.min_le_left (depD a) (toP b).depth
    omega)
  rw [eqv_toP a b la lb] at h
  exact h
mutual
theorem lt_data (I : L2.Inv X pins σ H s) : ∀ (a b : D) (A : Around) (x y : V) (v u : Value) (r : Bool), layD a = true → layD b = true → Rep (rc X ad) H a x → Rep (rc X ad) H b y → RelV x v → RelV y u → dlt a b = some r → A.units + depD a < cLine →
    ∀ (prog : Program) (w : World) (E : Value → Shared → Prop) (Q : Value → Shared → Prop), Q (.bool r) s → wpAny (model prog w) A (richCompare .Lt v u) Q E s
  | .int i, b, A, x, y, v, u, r, la, lb, ra, rb, rx, ry, e, hu, prog, w, E, Q, q => by
    cases b <;> simp only [dlt] at e <;> first | (cases e; done) | skip
    rename_i j
    cases e
    rw [Rep.int_iff] at ra rb
    subst ra rb
    obtain ⟨t, rfl⟩ := rx
    obtain ⟨t', rfl⟩ := ry
    exact (PyProof.Rows.lt_int q : wpAny (model prog w) A (compareOp .Lt (.int i t) (.int j t')) Q E s)
  | .str i, b, A, x, y, v, u, r, la, lb, ra, rb, rx, ry, e, hu, prog, w, E, Q, q => by
    cases b <;> simp only [dlt] at e <;> first | (cases e; done) | skip
    rename_i j
    cases e
    rw [Rep.str_iff] at ra rb
    subst ra rb
    obtain ⟨t, rfl⟩ := rx
    obtain ⟨t', rfl⟩ := ry
    exact (PyProof.Rows.lt_str q : wpAny (model prog w) A (compareOp .Lt (.str i t) (.str j t')) Q E s)
  | .tup xs, b, A, x, y, v, u, r, la, lb, ra, rb, rx, ry, e, hu, prog, w, E, Q, q => by
    cases b <;> simp only [dlt] at e <;> first | (cases e; done) | skip
    rename_i ys
    rw [Rep.tup_iff] at ra rb
    obtain ⟨p, vs, rfl, s1, r1⟩ := ra
    obtain ⟨p', us, rfl, s2, r2⟩ := rb
    cases rx
    cases ry
    obtain ⟨its, rv, ht, _⟩ := I.tuple s1
    obtain ⟨its2, rv2, ht2, _⟩ := I.tuple s2
    simp only [layD] at la lb
    simp only [depD] at hu
    exact lt_tup_lex ht ht2 (lts_data I xs ys A.in1 vs us its its2 r la lb r1 r2 rv rv2 e (by show A.units + 1 + _ < _; omega)) (by omega) q
  | .non, b, A, x, y, v, u, r, la, lb, ra, rb, rx, ry, e, hu, prog, w, E, Q, q => by cases b <;> simp only [dlt] at e <;> cases e
  | .bl _, b, A, x, y, v, u, r, la, lb, ra, rb, rx, ry, e, hu, prog, w, E, Q, q => by cases b <;> simp only [dlt] at e <;> cases e
  | .lst _, b, A, x, y, v, u, r, la, lb, ra, rb, rx, ry, e, hu, prog, w, E, Q, q => by cases b <;> simp only [dlt] at e <;> cases e
  | .obj _, b, A, x, y, v, u, r, la, lb, ra, rb, rx, ry, e, hu, prog, w, E, Q, q => by cases b <;> simp only [dlt] at e <;> cases e
  | .ty _, b, A, x, y, v, u, r, la, lb, ra, rb, rx, ry, e, hu, prog, w, E, Q, q => by cases b <;> simp only [dlt] at e <;> cases e
  | .dic _ _, b, A, x, y, v, u, r, la, lb, ra, rb, rx, ry, e, hu, prog, w, E, Q, q => by cases b <;> simp only [dlt] at e <;> cases e
  | .ins _ _, b, A, x, y, v, u, r, la, lb, ra, rb, rx, ry, e, hu, prog, w, E, Q, q => by cases b <;> simp only [dlt] at e <;> cases e
theorem lts_data (I : L2.Inv X pins σ H s) : ∀ (xs ys : List D) (A : Around) (vs us : List V) (its its2 : List Value) (r : Bool), layDs xs = true → layDs ys = true → Reps (rc X ad) H xs vs → Reps (rc X ad) H ys us → Vals vs its → Vals us its2 →
    dlts xs ys = some r → A.units + depDs xs < cLine → LexR A s its.toArray.toList its2.toArray.toList r
  | [], [], A, vs, us, its, its2, r, la, lb, ra, rb, rv, ru, e, hu => by
    cases ra.inv0
    cases rb.inv0
    cases rv
    cases ru
    simp only [dlts] at e
    cases e
    exact .nn
  | [], y :: ys, A, vs, us, its, its2, r, la, lb, ra, rb, rv, ru, e, hu => by
    cases ra.inv0
    obtain ⟨b, us', rfl, _, _⟩ := rb.inv
    cases rv
    cases ru with
    | cons q1 q2 =>
      simp only [dlts] at e
      cases e
      exact .nc
  | x :: xs, [], A, vs, us, its, its2, r, la, lb, ra, rb, rv, ru, e, hu => by
    cases rb.inv0
    obtain ⟨b, us', rfl, _, _⟩ := ra.inv
    cases ru
    cases rv with
    | cons q1 q2 =>
      simp only [dlts] at e
      cases e
      exact .cn
  | x :: xs, y :: ys, A, vs, us, its, its2, r, la, lb, ra, rb, rv, ru, e, hu => by
    obtain ⟨a, vs', rfl, a1, a2⟩ := ra.inv
    obtain ⟨b, us', rfl, b1, b2⟩ := rb.inv
    simp only [layDs, Bool.and_eq_true] at la lb
    simp only [depDs] at hu
    have hm1 := Nat.le_max_left (depD x) (depDs xs)
    have hm2 := Nat.le_max_right (depD x) (depDs xs)
    cases rv with
    | cons p1 p2 =>
      cases ru with
      | cons q1 q2 =>
        have he := eqAt_data I (A := A) la.1 lb.1 a1 b1 p1 q1 (by omega)
        simp only [dlts] at e
        cases hd : deq x y with
        | true =>
          rw [hd] at he e
          exact .eq he (lts_data I xs ys A _ _ _ _ r la.2 lb.2 a2 b2 p2 q2 e (by omega))
        | false =>
          rw [hd] at he e
          exact .lt he (lt_data I x y A _ _ _ _ r la.1 lb.1 a1 b1 p1 q1 e (by omega))
end
end
theorem dep60 {d : D} (h : eqOk d = true) : depD d ≤ 60 := by
  unfold eqOk at h
  rw [Bool.and_eq_true] at h
  exact of_decide_eq_true h.2
theorem lay_of {d : D} (h : eqOk d = true) : layD d = true := (eqOk_shaped h).2

/-! ### a comparison's rule: from its data -/
def rOf (X : Cx) (ad : Nat → Addr) (f : D → D → Option D) : R2 := fun x y H Q => ∃ a b d, Rep (rc X ad) H a x ∧ Rep (rc X ad) H b y ∧ f a b = some d ∧ ∀ v, scV d = some v → Q v H
section
variable {X : Cx} {ad : Nat → Addr}
theorem OpR.of {f : Value → Value → Sem Value} {r r' : R2} (h : OpR X f r) (w : ∀ x y H Q, r' x y H Q → r x y H Q) : OpR X f r' := fun pins s σ H x y v u Q I rx ry q => h pins s σ H x y v u Q I rx ry (w _ _ _ _ q)
theorem q_eq (hu : X.A.units + 100 < cLine) : OpR X (compareOp .Eq) (rOf X ad (evC .eq)) := OpR.of (op_eqD (by omega)) fun x y H Q ⟨a, b, d, ra, rb, e, q⟩ => by
  simp only [evC] at e
  split at e
  · rename_i hc
    rw [Bool.and_eq_true] at hc
    cases e
    obtain ⟨s1, l1⟩ := eqOk_shaped hc.1
    obtain ⟨s2, l2⟩ := eqOk_shaped hc.2
    exact ⟨_, _, ra.dp l1, rb.dp l2, s1, s2, by rw [eqv_toP a b l1 l2]; exact q _ rfl⟩
  · cases e
theorem q_ne (hu : X.A.units + 100 < cLine) : OpR X (compareOp .NotEq) (rOf X ad (evC .ne)) := OpR.of (op_neD (by omega)) fun x y H Q ⟨a, b, d, ra, rb, e, q⟩ => by
  simp only [evC] at e
  split at e
  · rename_i hc
    rw [Bool.and_eq_true] at hc
    cases e
    obtain ⟨s1, l1⟩ := eqOk_shaped hc.1
    obtain ⟨s2, l2⟩ := eqOk_shaped hc.2
    exact ⟨_, _, ra.dp l1, rb.dp l2, s1, s2, by rw [eqv_toP a b l1 l2]; exact q _ rfl⟩
  · cases e
theorem q_lt (hu : X.A.units + 100 < cLine) : OpR X (compareOp .Lt) (rOf X ad (evC .lt)) := by
  intro pins s σ H x y v u Q I rx ry ⟨a, b, d, ra, rb, e, q⟩
  simp only [evC] at e
  split at e
  · rename_i hc
    rw [Bool.and_eq_true] at hc
    rw [Option.map_eq_some_iff] at e
    obtain ⟨r, e, rfl⟩ := e
    have hd := dep60 hc.1
    exact lt_data I a b X.A x y v u r (lay_of hc.1) (lay_of hc.2) ra rb rx ry e (by omega) X.prog X.w X.xe _ ⟨.bl r, H, I, rfl, q _ rfl⟩
  · cases e
end
end EL

set_option Elab.async false
set_option linter.all false
set_option maxRecDepth 100000
set_option maxHeartbeats 1000000
/-! dicts -/
namespace EL
open PySem PySem.Spec PyProof.Rows L2

theorem deq_key (a b : Key) : deq (keyD a) (keyD b) = decide (a = b) := by
  cases a <;> cases b <;> simp only [keyD, deq]
  · rw [key_ll]
  · rw [key_lr]
  · rw [key_rl]
  · rw [key_rr]; exact Bool.beq_eq_decide_eq ..
theorem deqs_keys : ∀ a b : List Key, deqs (a.map keyD) (b.map keyD) = decide (a = b)
  | [], [] => by simp [deqs]
  | [], _ :: _ => by simp [deqs]
  | _ :: _, [] => by simp [deqs]
  | x :: xs, y :: ys => by
    simp only [List.map_cons, deqs]
    rw [deq_key, deqs_keys xs ys]
    by_cases h : x = y
    · subst h; simp
    · simp [h]
theorem deq_tup (a b : List Key) : deq (tupD a) (tupD b) = decide (a = b) := by
  simp only [tupD, deq]
  exact deqs_keys a b
theorem deq_kt (a : Key) (b : List Key) : deq (keyD a) (tupD b) = false := by cases a <;> simp only [keyD, tupD, deq]
theorem deq_tk (a : Key) (b : List Key) : deq (tupD b) (keyD a) = false := by cases a <;> simp only [keyD, tupD, deq]

theorem skey_eq {d : D} {k : Key} (h : skey d = some k) : d = keyD k := by
  cases d <;> simp only [skey] at h <;> cases h <;> rfl
theorem skeys_eq : ∀ {ds : List D} {k : List Key}, skeys ds = some k → ds = k.map keyD
  | [], k, h => by simp only [skeys] at h; cases h; rfl
  | d :: r, k, h => by
    simp only [skeys] at h
    split at h
    · rename_i a b e1 e2
      cases h
      rw [List.map_cons, ← skey_eq e1, ← skeys_eq e2]
    · cases h
theorem tkey_eq {d : D} {k : List Key} (h : tkey d = some k) : d = tupD k := by
  cases d <;> simp only [tkey] at h <;> first | (cases h; done) | skip
  rw [skeys_eq h]; rfl

section
variable {P : Program} {w : World} {ad : Nat → Addr} {K : PySem.W.Frag} {H : Hp} {G : Hp}
theorem vals_key {k : Key} {v : V} {R : RC} (h : Rep R G (keyD k) v) : v = kV k := by
  cases k with
  | inl i => exact Rep.int_iff.mp h
  | inr x => exact Rep.str_iff.mp h
theorem vals_keys {R : RC} : ∀ {ks : List Key} {vs : List V}, Reps R G (ks.map keyD) vs → vs = ks.map kV
  | [], _, h => h.inv0
  | k :: ks, _, h => by
    obtain ⟨v, r, e, h1, h2⟩ := h.inv
    rw [e, vals_key h1, vals_keys h2] <;> rfl
theorem hash_key {k : Key} : hashOf P w (keyD k) = some (keyH w k) := by cases k <;> rfl
theorem keysOf_map : ∀ ks : List Key, keysOf (ks.map keyD) = some ks
  | [] => rfl
  | k :: ks => by
    have h : keyOf (keyD k) = some k := by cases k <;> rfl
    simp only [List.map_cons, keysOf, h, keysOf_map ks]
theorem hash_tup {k : List Key} : hashOf P w (tupD k) = some (tupleKeyHash (mixKind P w) k) := by
  simp only [tupD, hashOf, keysOf_map, Option.map_some]

/-- rows of a dict with scalar keys, read by the library -/
theorem rowsS {R : RC} : ∀ {rows : List DictEntry} {kk : List Key} {ds : List D} {vs us : List V}, rows.map (fun r => some r.hash) = (kk.map keyD).map (hashOf P w) → Vals vs (rows.map (·.key)) → Reps R G (kk.map keyD) vs →
    Vals us (rows.map (·.val)) → Reps R G ds us → (∀ e ∈ rows, ∃ k, (mixKind P w).is k e.key = true ∧ e.hash = (mixKind P w).hash k) ∧ ∃ kvs : List (Key × Value), Pairs (mixKind P w) rows kvs ∧ kvs.map (·.1) = kk ∧ Vals us (kvs.map (·.2)) := by
  intro rows
  induction rows with
  | nil =>
    intro kk ds vs us hh hv hr hu hs
    cases kk with
    | nil => exact ⟨(fun e he => by cases he), [], Pairs.nil, rfl, hu⟩
    | cons k kk => cases hh
  | cons e rows ih =>
    intro kk ds vs us hh hv hr hu hs
    cases kk with
    | nil => cases hh
    | cons k kk =>
      simp only [List.map_cons, List.cons.injEq] at hh
      obtain ⟨h1, h2⟩ := hh
      rw [hash_key] at h1
      have h1 : e.hash = keyH w k := Option.some.inj h1
      cases hv with
      | cons q1 q2 =>
        obtain ⟨v, r, e1, e2, e3⟩ := hr.inv
        cases e1
        cases hu with
        | cons p1 p2 =>
          obtain ⟨d, ds', rfl⟩ : ∃ d ds', ds = d :: ds' := by
            cases ds with
            | nil => have := hs.inv0; cases this
            | cons d ds' => exact ⟨d, ds', rfl⟩
          obtain ⟨v', r', f1, f2, f3⟩ := hs.inv
          cases f1
          obtain ⟨i1, kvs, i2, i3, i4⟩ := ih h2 q2 e3 p2 f3
          have hk : (mixKind P w).is k e.key = true := kV_is (by rw [← vals_key e2]; exact q1)
          refine ⟨fun e' he' => ?_, (k, e.val) :: kvs, Pairs.cons hk rfl i2, by rw [List.map_cons, i3], Paired.cons p1 i4⟩
          rcases List.mem_cons.mp he' with rfl | he'
          · exact ⟨k, hk, h1⟩
          · exact i1 e' he'
/-- rows of a dict whose keys are tuples of scalars -/
theorem rowsT {R : RC} {h : Heap} (hT : ∀ a vs, SqT R.K G a vs → ∃ its : List Value, Vals vs its ∧ IsTup h a its.toArray) : ∀ {rows : List DictEntry} {kt : List (List Key)} {ds : List D} {vs us : List V}, rows.map (fun r => some r.hash) = (kt.map tupD).map (hashOf P w) →
    Vals vs (rows.map (·.key)) → Reps R G (kt.map tupD) vs → Vals us (rows.map (·.val)) → Reps R G ds us → ∃ xs : List (List Key × Addr × Value), rows = xs.map (entryOfKey (tupleKind (mixKind P w))) ∧ xs.map (·.1) = kt ∧ (∀ x ∈ xs, (tupleKind (mixKind P w)).is h x.1 x.2.1) ∧ Vals us (xs.map (·.2.2)) ∧ Reps R G (kt.map tupD) (xs.map fun x => .ref x.2.1) := by
  intro rows
  induction rows with
  | nil =>
    intro kt ds vs us hh hv hr hu hs
    cases kt with
    | nil => exact ⟨[], rfl, rfl, (fun e he => by cases he), hu, Reps.nil⟩
    | cons k kt => cases hh
  | cons e rows ih =>
    intro kt ds vs us hh hv hr hu hs
    cases kt with
    | nil => cases hh
    | cons k kt =>
      simp only [List.map_cons, List.cons.injEq] at hh
      obtain ⟨h1, h2⟩ := hh
      rw [hash_tup] at h1
      have h1 : e.hash = tupleKeyHash (mixKind P w) k := Option.some.inj h1
      cases hv with
      | cons q1 q2 =>
        obtain ⟨v, r, e1, e2, e3⟩ := hr.inv
        cases e1
        cases hu with
        | cons p1 p2 =>
          obtain ⟨d, ds', rfl⟩ : ∃ d ds', ds = d :: ds' := by
            cases ds with
            | nil => have := hs.inv0; cases this
            | cons d ds' => exact ⟨d, ds', rfl⟩
          obtain ⟨v', r', f1, f2, f3⟩ := hs.inv
          cases f1
          obtain ⟨xs, i1, i2, i3, i4, i5⟩ := ih h2 q2 e3 p2 f3
          have e20 := e2
          unfold tupD at e2
          rw [Rep.tup_iff] at e2
          obtain ⟨a, ws, rfl, sa, sr⟩ := e2
          have hw := vals_keys sr
          subst hw
          obtain ⟨its, rv, ht⟩ := hT a _ sa
          have hk : e.key = .ref a := q1
          obtain ⟨o, ho, hc, n, hd⟩ := ht
          refine ⟨(k, a, e.val) :: xs, ?_, by rw [List.map_cons, i2], fun x hx => ?_, Paired.cons p1 i4, Reps.cons e20 i5⟩
          · rw [List.map_cons, ← i1]
            congr 1
            obtain ⟨eh, ek, ev⟩ := e
            simp only at h1 hk
            subst h1 hk
            rfl
          · rcases List.mem_cons.mp hx with rfl | hx
            · exact ⟨o, its.toArray, n, ho, hc, hd, by simpa using items_are rv⟩
            · exact i3 x hx
theorem lookS {R : RC} : ∀ {kvs : List (Key × Value)} {ds : List D} {us : List V}, Vals us (kvs.map (·.2)) → Reps R G ds us → ∀ x : Key,
    match dlook ((kvs.map (·.1)).map keyD) ds (keyD x) with | some d => ∃ u v, valueAt kvs x = some u ∧ RelV v u ∧ Rep R G d v | none => valueAt kvs x = none
  | [], ds, us, hv, hr, x => by simp only [List.map_nil, dlook]; rfl
  | (k, u) :: kvs, ds, us, hv, hr, x => by
    cases hv with
    | cons q1 q2 =>
      obtain ⟨d, ds', rfl⟩ : ∃ d ds', ds = d :: ds' := by
        cases ds with
        | nil => have := hr.inv0; cases this
        | cons d ds' => exact ⟨d, ds', rfl⟩
      obtain ⟨v', r', f1, f2, f3⟩ := hr.inv
      cases f1
      simp only [List.map_cons, dlook]
      rw [deq_key]
      by_cases h : k = x
      · subst h
        simp only [decide_true, if_true]
        exact ⟨u, _, by simp [valueAt], q1, f2⟩
      · have e : valueAt ((k, u) :: kvs) x = valueAt kvs x := by simp [valueAt, List.find?_cons, h]
        rw [decide_eq_false h, e]
        simp only [Bool.false_eq_true, if_false]
        exact lookS q2 f3 x
theorem lookT {R : RC} : ∀ {xs : List (List Key × Addr × Value)} {ds : List D} {us : List V}, Vals us (xs.map (·.2.2)) → Reps R G ds us → ∀ x : List Key,
    match dlook ((xs.map (·.1)).map tupD) ds (tupD x) with | some d => ∃ p v, atKey xs x = some p ∧ RelV v p.2 ∧ Rep R G d v | none => atKey xs x = none
  | [], ds, us, hv, hr, x => by simp only [List.map_nil, dlook]; rfl
  | (k, a, u) :: xs, ds, us, hv, hr, x => by
    cases hv with
    | cons q1 q2 =>
      obtain ⟨d, ds', rfl⟩ : ∃ d ds', ds = d :: ds' := by
        cases ds with
        | nil => have := hr.inv0; cases this
        | cons d ds' => exact ⟨d, ds', rfl⟩
      obtain ⟨v', r', f1, f2, f3⟩ := hr.inv
      cases f1
      simp only [List.map_cons, dlook]
      rw [deq_tup]
      by_cases h : k = x
      · subst h
        simp only [decide_true, if_true]
        exact ⟨(a, u), _, by simp [atKey], q1, f2⟩
      · have e : atKey ((k, a, u) :: xs) x = atKey xs x := by simp [atKey, List.find?_cons, h]
        rw [decide_eq_false h, e]
        simp only [Bool.false_eq_true, if_false]
        exact lookT q2 f3 x
end
theorem skey_keyD (k : Key) : skey (keyD k) = some k := by cases k <;> rfl
theorem skeys_map : ∀ ks : List Key, skeys (ks.map keyD) = some ks
  | [] => rfl
  | k :: ks => by simp only [List.map_cons, skeys, skey_keyD, skeys_map ks]
theorem tkey_tupD (k : List Key) : tkey (tupD k) = some k := by simp only [tupD, tkey, skeys_map]
theorem skey_tupD (k : List Key) : skey (tupD k) = none := rfl
theorem tkey_keyD (k : Key) : tkey (keyD k) = none := by cases k <;> rfl
/-- the two sorts -/
theorem sorts {ks : List D} {x : D} (hk : kNd ks) (h : kSort ks x = true) : (∃ (kk : List Key) (k : Key), ks = kk.map keyD ∧ kk.Nodup ∧ x = keyD k) ∨ ∃ (kt : List (List Key)) (k : List Key), ks = kt.map tupD ∧ kt.Nodup ∧ x = tupD k := by
  unfold kSort at h
  rw [Bool.or_eq_true] at h
  rcases h with h | h
  · rw [Bool.and_eq_true] at h
    obtain ⟨h1, h2⟩ := h
    obtain ⟨k, hk2⟩ := Option.isSome_iff_exists.mp h2
    left
    rcases hk with ⟨kk, e, n⟩ | ⟨kt, e, n⟩
    · exact ⟨kk, k, e, n, skey_eq hk2⟩
    · cases kt with
      | nil => exact ⟨[], k, e, .nil, skey_eq hk2⟩
      | cons t kt =>
        rw [e, List.map_cons, List.all_cons, skey_tupD] at h1
        simp at h1
  · rw [Bool.and_eq_true] at h
    obtain ⟨h1, h2⟩ := h
    obtain ⟨k, hk2⟩ := Option.isSome_iff_exists.mp h2
    right
    rcases hk with ⟨kk, e, n⟩ | ⟨kt, e, n⟩
    · cases kk with
      | nil => exact ⟨[], k, e, .nil, tkey_eq hk2⟩
      | cons t kt =>
        rw [e, List.map_cons, List.all_cons, tkey_keyD] at h1
        simp at h1
    · exact ⟨kt, k, e, n, tkey_eq hk2⟩

section
variable {X : Cx} {ad : Nat → Addr} {pins : List (Addr × Obj)} {σ : L2.St} {H G : Hp} {s : Shared} {a : Addr} {rows : List DictEntry} {ks ds : List D}
/-- a dict's parts -/
def DicP (R : RC) (G : Hp) (rows : List DictEntry) (ks ds : List D) : Prop := (rows.map (fun r => some r.hash) = ks.map (hashOf R.P R.w) ∧ kNd ks) ∧
  (∃ vs, Vals vs (rows.map (·.key)) ∧ Reps R G ks vs) ∧ (∃ vs, Vals vs (rows.map (·.val)) ∧ Reps R G ds vs)
theorem dic_rd (I : L2.Inv X pins σ H s) (h : Rd H a (dicO a rows)) : ∃ (o : Obj) (es : Array DictEntry) (ep : Nat), s.heap.get? a = some o ∧ o.ExactDict ∧ o.data = .dict es ep ∧ es.toList = rows ∧ (a == sysModules) = false := (h.ok I.hok).1
/-- with scalar keys -/
theorem dicS (I : L2.Inv X pins σ H s) (h : Rd H a (dicO a rows)) {kk : List Key} (hn : kk.Nodup) (p : DicP (rc X ad) G rows (kk.map keyD) ds) : (a == sysModules) = false ∧
    ∃ kvs us, s.heap.DictOf (mixKind X.prog X.w) a kvs ∧ kvs.map (·.1) = kk ∧ Vals us (kvs.map (·.2)) ∧ Reps (rc X ad) G ds us := by
  obtain ⟨o, es, ep, e1, e2, e3, e4, e5⟩ := dic_rd I h
  obtain ⟨⟨p1, _⟩, ⟨vs, p2, p3⟩, ⟨us, p4, p5⟩⟩ := p
  obtain ⟨q1, kvs, q2, q3, q4⟩ := rowsS (P := X.prog) (w := X.w) p1 p2 p3 p4 p5
  exact ⟨e5, kvs, us, ⟨o, es, ep, e1, e2, e3, fun e he => q1 e (by rw [← e4]; exact Array.mem_toList_iff.mpr he), by rw [e4]; exact q2, by rw [q3]; exact hn⟩, q3, q4, p5⟩
theorem dicT (I : L2.Inv X pins σ H s) (hG : ∀ b vs, SqT X.K G b vs → SqT X.K H b vs) (h : Rd H a (dicO a rows)) {kt : List (List Key)} (hn : kt.Nodup) (p : DicP (rc X ad) G rows (kt.map tupD) ds) : (a == sysModules) = false ∧
    ∃ xs us, s.heap.DictOfH (tupleKind (mixKind X.prog X.w)) a xs ∧ xs.map (·.1) = kt ∧ Vals us (xs.map (·.2.2)) ∧ Reps (rc X ad) G ds us ∧ Reps (rc X ad) G (kt.map tupD) (xs.map fun x => V.ref x.2.1) := by
  obtain ⟨o, es, ep, e1, e2, e3, e4, e5⟩ := dic_rd I h
  obtain ⟨⟨p1, _⟩, ⟨vs, p2, p3⟩, ⟨us, p4, p5⟩⟩ := p
  obtain ⟨xs, q1, q2, q3, q4, q5⟩ := rowsT (P := X.prog) (w := X.w) (h := s.heap) (fun b vs hb => by obtain ⟨its, r1, r2, _⟩ := I.tuple (hG b vs hb); exact ⟨its, r1, r2⟩) p1 p2 p3 p4 p5
  exact ⟨e5, xs, us, ⟨o, es, ep, e1, e2, e3, by rw [e4]; exact q1, q3, by rw [q2]; exact hn⟩, q2, q4, p5, q5⟩
theorem key_tup (I : L2.Inv X pins σ H s) {k : List Key} {y : V} {u : Value} (hy : Rep (rc X ad) H (tupD k) y) (ry : RelV y u) : ∃ b, u = .ref b ∧ (tupleKind (mixKind X.prog X.w)).is s.heap k b := by
  unfold tupD at hy
  rw [Rep.tup_iff] at hy
  obtain ⟨b, vs, rfl, sb, rb⟩ := hy
  cases ry
  have hw := vals_keys rb
  subst hw
  obtain ⟨its, rv, ⟨o, ho, hc, n, hd⟩, _⟩ := I.tuple sb
  exact ⟨b, rfl, o, its.toArray, n, ho, hc, hd, by simpa using items_are rv⟩
theorem key_sc {k : Key} {y : V} {u : Value} (hy : Rep (rc X ad) H (keyD k) y) (ry : RelV y u) : (mixKind X.prog X.w).is k u = true := kV_is (by rw [← vals_key hy]; exact ry)

/-- y in d -/
theorem c_in (hu : X.A.units + 100 < cLine) (I : L2.Inv X pins σ H s) (hG : ∀ b vs, SqT X.K G b vs → SqT X.K H b vs) (h : Rd H a (dicO a rows)) (p : DicP (rc X ad) G rows ks ds) {x : D} {y : V} {u : Value} (hs : kSort ks x = true)
    (hy : Rep (rc X ad) H x y) (ry : RelV y u) {Q : Value → Shared → Prop} (q : ∀ s', L2.Inv X pins σ H s' → Q (.bool (dlook ks ds x).isSome) s') : wpAny (model X.prog X.w) X.A (compareOp .In u (.ref a)) Q X.xe s := by
  rcases sorts p.1.2 hs with ⟨kk, k, e, n, ek⟩ | ⟨kt, k, e, n, ek⟩
  · subst e ek
    obtain ⟨hd, kvs, us, h1, h2, h3, h4⟩ := dicS I h n p
    refine wpAny_in_of (key_sc hy ry) hd h1.mapOf ?_
    have := lookS h3 h4 k
    rw [h2] at this
    cases hl : dlook (kk.map keyD) ds (keyD k) with
    | none =>
      rw [hl] at this q
      rw [this]
      exact q _ (I.tok _)
    | some d =>
      rw [hl] at this q
      obtain ⟨u', v', e1, _⟩ := this
      rw [e1]
      exact q _ (I.tok _)
  · subst e ek
    obtain ⟨hd, xs, us, h1, h2, h3, h4, _⟩ := dicT I hG h n p
    obtain ⟨b, rfl, hb⟩ := key_tup I hy ry
    refine wpAny_in_heap (tupleKind_room_in1 (by omega)) hb hd h1 ?_
    have := lookT h3 h4 k
    rw [h2] at this
    cases hl : dlook (kt.map tupD) ds (tupD k) with
    | none =>
      rw [hl] at this q
      rw [this]
      exact q _ (I.tok _)
    | some d =>
      rw [hl] at this q
      obtain ⟨u', v', e1, _⟩ := this
      rw [e1]
      exact q _ (I.tok _)
theorem c_notin (hu : X.A.units + 100 < cLine) (I : L2.Inv X pins σ H s) (hG : ∀ b vs, SqT X.K G b vs → SqT X.K H b vs) (h : Rd H a (dicO a rows)) (p : DicP (rc X ad) G rows ks ds) {x : D} {y : V} {u : Value} (hs : kSort ks x = true)
    (hy : Rep (rc X ad) H x y) (ry : RelV y u) {Q : Value → Shared → Prop} (q : ∀ s', L2.Inv X pins σ H s' → Q (.bool (!(dlook ks ds x).isSome)) s') : wpAny (model X.prog X.w) X.A (compareOp .NotIn u (.ref a)) Q X.xe s := by
  rcases sorts p.1.2 hs with ⟨kk, k, e, n, ek⟩ | ⟨kt, k, e, n, ek⟩
  · subst e ek
    obtain ⟨hd, kvs, us, h1, h2, h3, h4⟩ := dicS I h n p
    refine wpAny_notIn_of (key_sc hy ry) hd h1.mapOf ?_
    have := lookS h3 h4 k
    rw [h2] at this
    cases hl : dlook (kk.map keyD) ds (keyD k) with
    | none =>
      rw [hl] at this q
      rw [this]
      exact q _ (I.tok _)
    | some d =>
      rw [hl] at this q
      obtain ⟨u', v', e1, _⟩ := this
      rw [e1]
      exact q _ (I.tok _)
  · subst e ek
    obtain ⟨hd, xs, us, h1, h2, h3, h4, _⟩ := dicT I hG h n p
    obtain ⟨b, rfl, hb⟩ := key_tup I hy ry
    refine wpAny_notIn_heap (tupleKind_room_in1 (by omega)) hb hd h1 ?_
    have := lookT h3 h4 k
    rw [h2] at this
    cases hl : dlook (kt.map tupD) ds (tupD k) with
    | none =>
      rw [hl] at this q
      rw [this]
      exact q _ (I.tok _)
    | some d =>
      rw [hl] at this q
      obtain ⟨u', v', e1, _⟩ := this
      rw [e1]
      exact q _ (I.tok _)
/-- d[y] -/
theorem c_get (hu : X.A.units + 100 < cLine) (I : L2.Inv X pins σ H s) (hG : ∀ b vs, SqT X.K G b vs → SqT X.K H b vs) (h : Rd H a (dicO a rows)) (p : DicP (rc X ad) G rows ks ds) {x d : D} {y : V} {u : Value} (hs : kSort ks x = true)
    (hy : Rep (rc X ad) H x y) (ry : RelV y u) (hl : dlook ks ds x = some d) {Q : Value → Shared → Prop} {E : Value → Shared → Prop} (q : ∀ v u' s', L2.Inv X pins σ H s' → RelV v u' → Rep (rc X ad) G d v → Q u' s') :
    s.TypeIs (.ref a) "dict" ∧ wpAny (model X.prog X.w) X.A (getItem (.ref a) u) Q E s := by
  rcases sorts p.1.2 hs with ⟨kk, k, e, n, ek⟩ | ⟨kt, k, e, n, ek⟩
  · subst e ek
    obtain ⟨hd, kvs, us, h1, h2, h3, h4⟩ := dicS I h n p
    have := lookS h3 h4 k
    rw [h2, hl] at this
    obtain ⟨u', v', e1, e2, e3⟩ := this
    exact ⟨h1.typeIs, wpAny_getItem_of (key_sc hy ry) h1.mapOf e1 (q v' u' _ (I.tok _) e2 e3)⟩
  · subst e ek
    obtain ⟨hd, xs, us, h1, h2, h3, h4, _⟩ := dicT I hG h n p
    obtain ⟨b, rfl, hb⟩ := key_tup I hy ry
    have := lookT h3 h4 k
    rw [h2, hl] at this
    obtain ⟨p', v', e1, e2, e3⟩ := this
    exact ⟨h1.typeIs, wpAny_getItem_heap (tupleKind_room_in1 (by omega)) hb h1 e1 (q v' p'.2 _ (I.tok _) e2 e3)⟩
end
end EL

set_option Elab.async false
set_option linter.all false
set_option maxRecDepth 100000
set_option maxHeartbeats 1000000
/-! dicts written -/
namespace EL
open PySem PySem.Spec PyProof.Rows L2
theorem dic_obj {P : Program} {w : World} {H : Hp} {h : Heap} {a : Addr} {rows : List DictEntry} (x : ∃ (o : Obj) (es : Array DictEntry) (ep : Nat), h.get? a = some o ∧ o.ExactDict ∧ o.data = .dict es ep ∧ es.toList = rows ∧ (a == sysModules) = false) :
    ObjOk P w H h a (dicO a rows) := by
  obtain ⟨o, es, ep, e1, e2⟩ := x
  refine ⟨⟨o, es, ep, e1, e2⟩, ⟨o, e1⟩, fun h1 h2 ⟨o', es', ep', q1, q2⟩ k => ⟨o', es', ep', k _ q1, q2⟩⟩
section
variable {P : Program} {w : World} {R : RC} {G : Hp}
/-- the library's pairs behind a store, as rows -/
theorem rows_of_pairs : ∀ {rows : List DictEntry} {kvs : List (Key × Value)}, Pairs (mixKind P w) rows kvs → (∀ e ∈ rows, ∃ k, (mixKind P w).is k e.key = true ∧ e.hash = (mixKind P w).hash k) →
    rows.map (fun r => some r.hash) = ((kvs.map (·.1)).map keyD).map (hashOf P w) ∧ Vals ((kvs.map (·.1)).map kV) (rows.map (·.key)) ∧ rows.map (·.val) = kvs.map (·.2)
  | [], _, .nil, _ => ⟨rfl, .nil, rfl⟩
  | e :: rows, _, .cons (kv := kv) (kvs := kvs) h1 h2 h3, hk => by
    obtain ⟨i1, i2, i3⟩ := rows_of_pairs h3 fun e' he => hk e' (List.mem_cons_of_mem _ he)
    obtain ⟨k, q1, q2⟩ := hk e List.mem_cons_self
    have ek : k = kv.1 := (mixKind P w).inj _ _ _ q1 h1
    refine ⟨?_, ?_, ?_⟩
    · simp only [List.map_cons, i1, hash_key, q2, ek]
      rfl
    · refine .cons ?_ i2
      obtain ⟨k0, v0⟩ := kv
      simp only at h1
      rcases keyIs_shape h1 with ⟨i, t, e1, e2⟩ | ⟨x, t, e1, e2⟩
      · show RelV (kV k0) e.key
        rw [e1, e2]
        exact ⟨t, rfl⟩
      · show RelV (kV k0) e.key
        rw [e1, e2]
        exact ⟨t, rfl⟩
    · simp only [List.map_cons, i3, h2]
theorem reps_keys : ∀ ks : List Key, Reps R G (ks.map keyD) (ks.map kV)
  | [] => .nil
  | k :: ks => .cons (by cases k <;> first | exact Rep.int_iff.mpr rfl | exact Rep.str_iff.mpr rfl) (reps_keys ks)
/-- d[k] = v on the library's pairs and on data -/
def putS (k : Key) (v : Value) : List (Key × Value) → List (Key × Value)
  | [] => [(k, v)]
  | kv :: r => if kv.1 = k then (kv.1, v) :: r else kv :: putS k v r
theorem map_same {k : Key} {v : Value} : ∀ {r : List (Key × Value)}, k ∉ r.map (·.1) → r.map (fun kv => if kv.1 = k then (kv.1, v) else kv) = r
  | [], _ => rfl
  | kv :: r, h => by
    simp only [List.map_cons, List.mem_cons, not_or] at h
    rw [List.map_cons, map_same h.2, if_neg (fun e => h.1 e.symm)]
theorem stored_putS {k : Key} {v : Value} : ∀ {kvs : List (Key × Value)}, (kvs.map (·.1)).Nodup → stored kvs k v = putS k v kvs
  | [], _ => rfl
  | kv :: r, hn => by
    rw [List.map_cons, List.nodup_cons] at hn
    have ih := stored_putS (k := k) (v := v) hn.2
    unfold stored at ih ⊢
    by_cases h : kv.1 = k
    · simp only [List.any_cons, h, decide_true, Bool.true_or, if_true, List.map_cons, putS]
      rw [map_same (h ▸ hn.1)]
    · simp only [List.any_cons, h, decide_false, Bool.false_or, List.map_cons, putS, if_false]
      rw [← ih]
      split <;> rfl
theorem put_rel {d : D} {y : V} {u : Value} {k : Key} (ry : RelV y u) (hd : Rep R G d y) : ∀ {kvs : List (Key × Value)} {ds : List D} {us : List V}, Vals us (kvs.map (·.2)) → Reps R G ds us →
    ((putS k u kvs).map (·.1)).map keyD = (dput ((kvs.map (·.1)).map keyD) ds (keyD k) d).1 ∧ ∃ us', Vals us' ((putS k u kvs).map (·.2)) ∧ Reps R G (dput ((kvs.map (·.1)).map keyD) ds (keyD k) d).2 us'
  | [], ds, us, hv, hr => ⟨rfl, [y], .cons ry .nil, by simp only [List.map_nil, dput]; exact .cons hd .nil⟩
  | (k0, u0) :: kvs, ds, us, hv, hr => by
    cases hv with
    | cons q1 q2 =>
      obtain ⟨d0, ds', rfl⟩ : ∃ d ds', ds = d :: ds' := by
        cases ds with
        | nil => have := hr.inv0; cases this
        | cons d ds' => exact ⟨d, ds', rfl⟩
      obtain ⟨v', r', f1, f2, f3⟩ := hr.inv
      cases f1
      obtain ⟨i1, us', i2, i3⟩ := put_rel (k := k) ry hd q2 f3
      simp only [List.map_cons, dput, deq_key]
      by_cases h : k0 = k
      · subst h
        simp only [decide_true, if_true, putS, List.map_cons]
        exact ⟨trivial, _, .cons ry q2, .cons hd f3⟩
      · rw [decide_eq_false h]
        simp only [Bool.false_eq_true, if_false, putS, h, List.map_cons]
        exact ⟨by rw [i1], _, .cons q1 i2, .cons f2 i3⟩
def putT (k : List Key) (b : Addr) (v : Value) : List (List Key × Addr × Value) → List (List Key × Addr × Value)
  | [] => [(k, b, v)]
  | x :: r => if x.1 = k then (x.1, x.2.1, v) :: r else x :: putT k b v r
theorem map_sameT {k : List Key} {v : Value} (r : List (List Key × Addr × Value)) (h : k ∉ r.map (·.1)) : r.map (putAt k v) = r := map_putAt_of_not_mem r k v h
theorem stored_putT {k : List Key} {b : Addr} {v : Value} : ∀ {xs : List (List Key × Addr × Value)}, (xs.map (·.1)).Nodup → storedH xs k b v = putT k b v xs
  | [], _ => rfl
  | x :: r, hn => by
    rw [List.map_cons, List.nodup_cons] at hn
    have ih := stored_putT (k := k) (b := b) (v := v) hn.2
    unfold storedH at ih ⊢
    by_cases h : x.1 = k
    · have e1 : (atKey (x :: r) k).isSome = true := by simp [atKey, List.find?_cons, h]
      rw [if_pos e1, List.map_cons, map_sameT r (h ▸ hn.1)]
      simp only [putT, putAt, h, if_true]
    · have e1 : atKey (x :: r) k = atKey r k := by simp [atKey, List.find?_cons, h]
      rw [e1, List.map_cons]
      simp only [putT, h, if_false]
      rw [← ih]
      have e2 : putAt k v x = x := by simp only [putAt, h, if_false]
      rw [e2]
      split
      · rfl
      · rfl
theorem put_relT {d : D} {y : V} {u : Value} {k : List Key} {b : Addr} (ry : RelV y u) (hd : Rep R G d y) (hb : Rep R G (tupD k) (.ref b)) : ∀ {xs : List (List Key × Addr × Value)} {ds : List D} {us : List V}, Vals us (xs.map (·.2.2)) → Reps R G ds us →
    Reps R G ((xs.map (·.1)).map tupD) (xs.map fun x => V.ref x.2.1) →
    ((putT k b u xs).map (·.1)).map tupD = (dput ((xs.map (·.1)).map tupD) ds (tupD k) d).1 ∧ (∃ us', Vals us' ((putT k b u xs).map (·.2.2)) ∧ Reps R G (dput ((xs.map (·.1)).map tupD) ds (tupD k) d).2 us') ∧
      Reps R G (((putT k b u xs).map (·.1)).map tupD) ((putT k b u xs).map fun x => V.ref x.2.1)
  | [], ds, us, hv, hr, ha => ⟨rfl, ⟨[y], .cons ry .nil, by simp only [List.map_nil, dput]; exact .cons hd .nil⟩, .cons hb .nil⟩
  | (k0, a0, u0) :: xs, ds, us, hv, hr, ha => by
    cases hv with
    | cons q1 q2 =>
      obtain ⟨d0, ds', rfl⟩ : ∃ d ds', ds = d :: ds' := by
        cases ds with
        | nil => have := hr.inv0; cases this
        | cons d ds' => exact ⟨d, ds', rfl⟩
      obtain ⟨v', r', f1, f2, f3⟩ := hr.inv
      cases f1
      obtain ⟨v2, r2, g1, g2, g3⟩ := ha.inv
      simp only [List.map_cons, List.cons.injEq] at g1
      obtain ⟨g1, g1'⟩ := g1
      subst g1 g1'
      obtain ⟨i1, ⟨us', i2, i3⟩, i4⟩ := put_relT (k := k) (b := b) ry hd hb q2 f3 g3
      simp only [List.map_cons, dput, deq_tup]
      by_cases h : k0 = k
      · subst h
        simp only [decide_true, if_true, putT, List.map_cons]
        exact ⟨trivial, ⟨_, .cons ry q2, .cons hd f3⟩, .cons g2 g3⟩
      · rw [decide_eq_false h]
        simp only [Bool.false_eq_true, if_false, putT, h, List.map_cons]
        exact ⟨by rw [i1], ⟨_, .cons q1 i2, .cons f2 i3⟩, .cons g2 i4⟩
theorem dicP_S {rows : List DictEntry} {kvs : List (Key × Value)} {ds : List D} {us : List V} (h1 : Pairs (mixKind R.P R.w) rows kvs) (h2 : ∀ e ∈ rows, ∃ k, (mixKind R.P R.w).is k e.key = true ∧ e.hash = (mixKind R.P R.w).hash k)
    (hn : (kvs.map (·.1)).Nodup) (hv : Vals us (kvs.map (·.2))) (hr : Reps R G ds us) : DicP R G rows ((kvs.map (·.1)).map keyD) ds := by
  obtain ⟨i1, i2, i3⟩ := rows_of_pairs h1 h2
  exact ⟨⟨i1, .inl ⟨_, rfl, hn⟩⟩, ⟨_, i2, reps_keys _⟩, ⟨us, by rw [i3]; exact hv, hr⟩⟩
theorem vals_refs {α : Type} (f : α → Addr) : ∀ xs : List α, Vals (xs.map fun x => V.ref (f x)) (xs.map fun x => Value.ref (f x))
  | [] => .nil
  | x :: xs => .cons rfl (vals_refs f xs)
theorem dicP_T {rows : List DictEntry} {xs : List (List Key × Addr × Value)} {ds : List D} {us : List V} (h1 : rows = xs.map (entryOfKey (tupleKind (mixKind R.P R.w)))) (hn : (xs.map (·.1)).Nodup) (hv : Vals us (xs.map (·.2.2))) (hr : Reps R G ds us)
    (ha : Reps R G ((xs.map (·.1)).map tupD) (xs.map fun x => V.ref x.2.1)) : DicP R G rows ((xs.map (·.1)).map tupD) ds := by
  subst h1
  refine ⟨⟨?_, .inr ⟨_, rfl, hn⟩⟩, ⟨_, ?_, ha⟩, ⟨us, ?_, hr⟩⟩
  · rw [List.map_map, List.map_map, List.map_map]
    refine List.map_congr_left fun x _ => ?_
    show some _ = hashOf R.P R.w (tupD x.1)
    rw [hash_tup]
    rfl
  · rw [List.map_map]
    exact vals_refs (fun x : List Key × Addr × Value => x.2.1) xs
  · rw [List.map_map]
    exact hv
end
section
variable {X : Cx} {ad : Nat → Addr} {pins : List (Addr × Obj)} {σ : L2.St} {H G : Hp} {s : Shared} {a : Addr} {rows : List DictEntry} {ks ds : List D}
theorem pairs_len {P : Program} {w : World} : ∀ {rows : List DictEntry} {kvs : List (Key × Value)}, Pairs (mixKind P w) rows kvs → rows.length = kvs.length
  | _, _, .nil => rfl
  | _, _, .cons _ _ h => by rw [List.length_cons, List.length_cons, pairs_len h]
/-- d[y] = v -/
theorem c_set (hu : X.A.units + 100 < cLine) (I : L2.Inv X pins σ H s) (hG : ∀ b vs, SqT X.K G b vs → SqT X.K H b vs) (hGR : ∀ (d : D) (v : V), Rep (rc X ad) G d v → Rep (rc X ad) H d v) (h : H a = some (dicO a rows)) (p : DicP (rc X ad) G rows ks ds) {x d : D} {y z : V} {u r : Value} (hs : kSort ks x = true)
    (hsz : ks.length < sizeLine) (hy : Rep (rc X ad) G x y) (ry : RelV y u) (hz : Rep (rc X ad) G d z) (rz : RelV z r) {Q : Unit → Shared → Prop} {E : Value → Shared → Prop}
    (q : ∀ rows' s', DicP (rc X ad) G rows' (dput ks ds x d).1 (dput ks ds x d).2 → L2.Inv X pins σ (upd H a (dicO a rows')) s' → Q () s') : wpAny (model X.prog X.w) X.A (setItem (.ref a) u r) Q E s := by
  have mu : Mut (H a) := by rw [h]; exact True.intro
  rcases sorts p.1.2 hs with ⟨kk, k, e, n, ek⟩ | ⟨kt, k, e, n, ek⟩
  · subst e ek
    obtain ⟨hd, kvs, us, h1, h2, h3, h4⟩ := dicS I (.inl h) n p
    have hl : kvs.length ≤ sizeLine := by
      rw [List.length_map] at hsz
      have : kvs.length = kk.length := by rw [← h2, List.length_map]
      omega
    refine wpAny_setItem_pairs (key_sc (hGR _ _ hy) ry) h1 (fun h' hh hs' => ?_) hl
    rw [stored_putS (h2 ▸ n)] at hh
    obtain ⟨o, es, ep, g1, g2, g3, g4, g5, g6⟩ := hh
    obtain ⟨i1, us', i2, i3⟩ := put_rel (k := k) rz hz h3 h4
    rw [h2] at i1 i3
    have hp := dicP_S (R := rc X ad) (G := G) g5 (fun e he => g4 e (Array.mem_toList_iff.mp he)) g6 i2 i3
    rw [i1] at hp
    exact q es.toList _ hp (d_write I mu hs' ⟨o, g1⟩ (dic_obj ⟨o, es, ep, g1, g2, g3, rfl, hd⟩))
  · subst e ek
    obtain ⟨hd, xs, us, h1, h2, h3, h4, h5⟩ := dicT I hG (.inl h) n p
    obtain ⟨b, rfl, hb⟩ := key_tup I (hGR _ _ hy) ry
    have hl : xs.length ≤ sizeLine := by
      rw [List.length_map] at hsz
      have : xs.length = kt.length := by rw [← h2, List.length_map]
      omega
    refine wpAny_setItem_heap (tupleKind_room_in1 (by omega)) hb h1 (fun h' hh hs' => ?_) hl
    rw [stored_putT (h2 ▸ n)] at hh
    obtain ⟨o, es, ep, g1, g2, g3, g4, g5, g6⟩ := hh
    have ey : y = .ref b := by
      have hy' := hy
      unfold tupD at hy'
      rw [Rep.tup_iff] at hy'
      obtain ⟨b', _, rfl, _⟩ := hy'
      cases ry
      rfl
    subst ey
    rw [← h2] at h5
    obtain ⟨i1, ⟨us', i2, i3⟩, i4⟩ := put_relT (k := k) (b := b) rz hz hy h3 h4 h5
    rw [h2] at i1 i3
    have hp := dicP_T (R := rc X ad) (G := G) g4 g6 i2 i3 i4
    rw [i1] at hp
    exact q es.toList _ hp (d_write I mu hs' ⟨o, g1⟩ (dic_obj ⟨o, es, ep, g1, g2, g3, rfl, hd⟩))
/-- {} -/
theorem pe_dnewD {pos : Pos} : PE X (.Dict [] [] pos) (fun _ H Q => ∀ p, H p = none → Q (.ref p) (upd H p (dicO p []))) := ⟨fun pins s σ H Q I h =>
  wpAny_Dict_empty ⟨.ref s.heap.objs.size, _, I.laid (a := s.heap.objs.size) (o := dicO s.heap.objs.size []) (t' := s.toks) (fun _ _ q => Heap.get?_push_of_some _ q) (Nat.le_refl _)
    (dic_obj ⟨_, #[], 0, Heap.get?_push_size _ rfl, ⟨rfl, rfl, rfl⟩, rfl, rfl, beq_eq_false_iff_ne.mpr (Ne.symm (Nat.ne_of_lt I.big))⟩), rfl, h _ (I.hok.fresh (Nat.le_refl _))⟩⟩
theorem dicP_nil {R : RC} : DicP R G [] [] [] := ⟨⟨rfl, .inl ⟨[], rfl, .nil⟩⟩, ⟨[], .nil, .nil⟩, ⟨[], .nil, .nil⟩⟩
/-- len(d) -/
theorem c_len (I : L2.Inv X pins σ H s) (hG : ∀ b vs, SqT X.K G b vs → SqT X.K H b vs) (h : Rd H a (dicO a rows)) (p : DicP (rc X ad) G rows ks ds) (hsz : ks.length ≤ sizeLine) {Q : Value → Shared → Prop} {E : Value → Shared → Prop} {A : Around}
    (q : ∀ t s', L2.Inv X pins σ H s' → Q (.int ks.length t) s') : wpAny (model X.prog X.w) A (call (.builtin "len") [.ref a]) Q E s := by
  have hl : sizeLine = 16777216 := sizeLine_eq
  rcases p.1.2 with ⟨kk, e, n⟩ | ⟨kt, e, n⟩
  · subst e
    obtain ⟨hd, kvs, us, h1, h2, h3, h4⟩ := dicS I h n p
    have e1 : kvs.length = (kk.map keyD).length := by rw [← h2, List.length_map, List.length_map]
    refine call_len_dict hd h1 (by omega) ?_
    rw [e1]
    exact q _ _ (I.tok _)
  · subst e
    obtain ⟨hd, xs, us, h1, h2, h3, h4, _⟩ := dicT I hG h n p
    have e1 : xs.length = (kt.map tupD).length := by rw [← h2, List.length_map, List.length_map]
    refine call_len_dictH hd h1 (by omega) ?_
    rw [e1]
    exact q _ _ (I.tok _)
end
end EL

set_option Elab.async false
set_option linter.all false
set_option maxRecDepth 100000
set_option maxHeartbeats 1000000
/-! comparisons of all kinds, truth, subscripts -/
namespace EL
open PySem PySem.Spec PyProof.Rows L2
section
variable {X : Cx} {ad : Nat → Addr}
theorem q_le : OpR X (compareOp .LtE) (rOf X ad (evC .le)) := OpR.of op_le fun x y H Q ⟨a, b, d, ra, rb, e, q⟩ => by
  simp only [evC] at e
  split at e
  · cases e
    exact ⟨_, _, Rep.int_iff.mp ra, Rep.int_iff.mp rb, q _ rfl⟩
  · cases e
theorem q_ge : OpR X (compareOp .GtE) (rOf X ad (evC .ge)) := OpR.of op_ge fun x y H Q ⟨a, b, d, ra, rb, e, q⟩ => by
  simp only [evC] at e
  split at e
  · cases e
    exact ⟨_, _, Rep.int_iff.mp ra, Rep.int_iff.mp rb, q _ rfl⟩
  · cases e
theorem q_gt : OpR X (compareOp .Gt) (rOf X ad (evC .gt)) := OpR.of op_gt fun x y H Q ⟨a, b, d, ra, rb, e, q⟩ => by
  simp only [evC] at e
  split at e
  · cases e
    exact ⟨_, _, Rep.int_iff.mp ra, Rep.int_iff.mp rb, q _ rfl⟩
  · cases e
theorem non_dec {R : RC} {H : Hp} {a : D} {x : V} (h : Rep R H a x) : decide (x = V.non) = isNonD a := by
  cases a with
  | non => rw [Rep.non_iff] at h; subst h; rfl
  | tup ds => rw [Rep.tup_iff] at h; obtain ⟨a, _, rfl, _⟩ := h; rfl
  | lst ds => rw [Rep.lst_iff] at h; obtain ⟨a, _, rfl, _⟩ := h; rfl
  | dic ks ds => simp only [Rep] at h; obtain ⟨a, _, rfl, _⟩ := h; rfl
  | ins c fs => simp only [Rep] at h; obtain ⟨a, _, _, _, rfl, _⟩ := h; rfl
  | _ => simp only [Rep] at h; subst h; rfl
theorem q_isN : OpR X (compareOp .Is) (rOf X ad (evC .isN)) := OpR.of op_isN fun x y H Q ⟨a, b, d, ra, rb, e, q⟩ => by
  simp only [evC] at e
  split at e
  · cases e
    refine ⟨Rep.non_iff.mp rb, ?_⟩
    rw [non_dec ra]
    exact q _ rfl
  · cases e
theorem q_notN : OpR X (compareOp .IsNot) (rOf X ad (evC .notN)) := OpR.of op_notN fun x y H Q ⟨a, b, d, ra, rb, e, q⟩ => by
  simp only [evC] at e
  split at e
  · cases e
    refine ⟨Rep.non_iff.mp rb, ?_⟩
    rw [← non_dec ra] at q
    exact q _ rfl
  · cases e
theorem dic_parts {H : Hp} {ks vs : List D} {y : V} (h : Rep (rc X ad) H (.dic ks vs) y) : ∃ a rows, y = .ref a ∧ Rd H a (dicO a rows) ∧ DicP (rc X ad) H rows ks vs := by
  simp only [Rep] at h
  obtain ⟨a, rows, e, s, hh, r1, r2⟩ := h
  exact ⟨a, rows, e, s, hh, r1, r2⟩
theorem in_room {A : Around} {a : D} {ds : List D} (ha : eqOk a = true) (hu : A.units + 100 < cLine) : A.units + 1 + min (PyData.depthAll (toPs ds)) (toP a).depth < cLine := by
  have h1 := dep60 ha
  have h2 := Nat.min_le_right (PyData.depthAll (toPs ds)) (toP a).depth
  rw [dep_toP a (lay_of ha)] at h2 ⊢
  omega
theorem q_in (hu : X.A.units + 100 < cLine) : OpR X (compareOp .In) (rOf X ad (evC .inn)) := by
  intro pins s σ H x y v u Q I rx ry ⟨a, b, d, ra, rb, e, q⟩
  simp only [evC] at e
  split at e
  · rename_i ds
    split at e
    · rename_i hc
      rw [Bool.and_eq_true] at hc
      cases e
      obtain ⟨as, r1⟩ := Dp.reads I (toP a) x v (ra.dp (lay_of hc.1)) rx
      obtain ⟨bs, r2⟩ := Dp.reads I (toP (.lst ds)) y u (rb.dp (lay_of hc.2)) ry
      simp only [toP] at r2
      have lds : layDs ds = true := by simpa only [layD] using lay_of hc.2
      refine SeqAt.in_list_reads r2 r1 (by rw [lays_toP]; exact lds) (by rw [lay_toP]; exact lay_of hc.1) (in_room hc.1 hu) ?_
      rw [toPs_any a (lay_of hc.1) ds lds]
      exact ⟨.bl _, H, I, rfl, q _ rfl⟩
    · cases e
  · rename_i ds
    split at e
    · rename_i hc
      rw [Bool.and_eq_true] at hc
      cases e
      obtain ⟨as, r1⟩ := Dp.reads I (toP a) x v (ra.dp (lay_of hc.1)) rx
      obtain ⟨bs, r2⟩ := Dp.reads I (toP (.tup ds)) y u (rb.dp (lay_of hc.2)) ry
      simp only [toP] at r2
      have lds : layDs ds = true := by simpa only [layD] using lay_of hc.2
      refine SeqAt.in_tuple_reads r2 r1 (by rw [lays_toP]; exact lds) (by rw [lay_toP]; exact lay_of hc.1) (in_room hc.1 hu) ?_
      rw [toPs_any a (lay_of hc.1) ds lds]
      exact ⟨.bl _, H, I, rfl, q _ rfl⟩
    · cases e
  · rename_i ks vs
    split at e
    · rename_i hc
      cases e
      obtain ⟨p, rows, rfl, h1, h2⟩ := dic_parts rb
      cases ry
      exact c_in hu I (fun _ _ h => h) h1 h2 hc ra rx fun s' I' => ⟨.bl _, H, I', rfl, q _ rfl⟩
    · cases e
  · cases e
theorem q_notin (hu : X.A.units + 100 < cLine) : OpR X (compareOp .NotIn) (rOf X ad (evC .notin)) := by
  intro pins s σ H x y v u Q I rx ry ⟨a, b, d, ra, rb, e, q⟩
  simp only [evC] at e
  split at e
  · rename_i ds
    split at e
    · rename_i hc
      rw [Bool.and_eq_true] at hc
      cases e
      obtain ⟨as, r1⟩ := Dp.reads I (toP a) x v (ra.dp (lay_of hc.1)) rx
      obtain ⟨bs, r2⟩ := Dp.reads I (toP (.lst ds)) y u (rb.dp (lay_of hc.2)) ry
      simp only [toP] at r2
      have lds : layDs ds = true := by simpa only [layD] using lay_of hc.2
      refine SeqAt.notIn_list_reads r2 r1 (by rw [lays_toP]; exact lds) (by rw [lay_toP]; exact lay_of hc.1) (in_room hc.1 hu) ?_
      rw [toPs_any a (lay_of hc.1) ds lds]
      exact ⟨.bl _, H, I, rfl, q _ rfl⟩
    · cases e
  · rename_i ds
    split at e
    · rename_i hc
      rw [Bool.and_eq_true] at hc
      cases e
      obtain ⟨as, r1⟩ := Dp.reads I (toP a) x v (ra.dp (lay_of hc.1)) rx
      obtain ⟨bs, r2⟩ := Dp.reads I (toP (.tup ds)) y u (rb.dp (lay_of hc.2)) ry
      simp only [toP] at r2
      have lds : layDs ds = true := by simpa only [layD] using lay_of hc.2
      refine SeqAt.notIn_tuple_reads r2 r1 (by rw [lays_toP]; exact lds) (by rw [lay_toP]; exact lay_of hc.1) (in_room hc.1 hu) ?_
      rw [toPs_any a (lay_of hc.1) ds lds]
      exact ⟨.bl _, H, I, rfl, q _ rfl⟩
    · cases e
  · rename_i ks vs
    split at e
    · rename_i hc
      cases e
      obtain ⟨p, rows, rfl, h1, h2⟩ := dic_parts rb
      cases ry
      exact c_notin hu I (fun _ _ h => h) h1 h2 hc ra rx fun s' I' => ⟨.bl _, H, I', rfl, q _ rfl⟩
    · cases e
  · cases e
def c2B : C2 → CmpOp → Bool
  | .eq, .Eq => true
  | .ne, .NotEq => true
  | .lt, .Lt => true
  | .le, .LtE => true
  | .gt, .Gt => true
  | .ge, .GtE => true
  | .isN, .Is => true
  | .notN, .IsNot => true
  | .inn, .In => true
  | .notin, .NotIn => true
  | _, _ => false
theorem q_all (hu : X.A.units + 100 < cLine) {o : C2} {op : CmpOp} (h : c2B o op = true) : OpR X (compareOp op) (rOf X ad (evC o)) := by
  cases o <;> cases op <;> first | (cases h; done) | skip
  · exact q_eq hu
  · exact q_ne hu
  · exact q_lt hu
  · exact q_le
  · exact q_gt
  · exact q_ge
  · exact q_isN
  · exact q_notN
  · exact q_in hu
  · exact q_notin hu
end
section
variable {X : Cx} {ad : Nat → Addr} {lt : Bool} {E : Wx} {C : Cn} {a b c : Expr} {pos : Pos} {x y z : ME}
theorem e_cmp (hu : X.A.units + 100 < cLine) {o : C2} {op : CmpOp} (h : c2B o op = true) (hm : behindInMarks op b = false) (ha : PE X a (rdE (rc X ad) lt E (evE C x))) (hb : PE X b (rdE (rc X ad) lt E (evE C y))) :
    PE X (.Compare a [op] [b] pos) (rdE (rc X ad) lt E (evE C (.cmp o x y))) := by
  refine PE.imp (pe_cmpR (q_all (ad := ad) hu h) ha hb hm) fun σ H Q h => ?_
  have hf : evE C (.cmp o x y) = ev2 (evE C x) (evE C y) (k2 (evC o)) := by funext δ; simp only [evE]
  rw [hf] at h
  exact rd2 h fun u v H1 q => st2_sc q
/-- the same as a test -/
def evT (f : Ds → Oc Rv) : Ds → Oc Bool := fun δ => (f δ).bind fun r δ1 => match r with
  | .im (.bl b) => .ok b δ1
  | _ => .bad
theorem rdT_of {f : Ds → Oc Rv} {σ : L2.St} {H : Hp} {Q : Bool → Hp → Prop} (h : rdT (rc X ad) lt E (evT f) σ H Q) : rdE (rc X ad) lt E f σ H fun v H' => ∃ k, v = .bl k ∧ Q k H' := by
  obtain ⟨Φ, δ, e1, e2, R0, p⟩ := h
  refine ⟨Φ, δ, e1, e2, R0, ?_⟩
  unfold evT at p
  cases hf : f δ with
  | bad => rw [hf] at p; exact p
  | ex c δ1 => rw [hf] at p; exact p
  | ok r δ1 =>
    rw [hf] at p
    intro v H' ok
    simp only [Oc.bind] at p
    split at p
    · rename_i k
      obtain ⟨R1, g1, h1⟩ := ok
      exact ⟨k, Rep.bl_iff.mp h1, p H' R1 g1⟩
    · exact p.elim
theorem t_val {e : Expr} {f : Ds → Oc Rv} (h : PE X e (rdE (rc X ad) lt E f)) (ht : isTestE e = false) : PT X e (rdT (rc X ad) lt E (evT f)) :=
  PT.imp (pt_val h (test_plain ht X.env)) fun σ H Q q => rdT_of q
theorem t_cmp (hu : X.A.units + 100 < cLine) {o : C2} {op : CmpOp} (h : c2B o op = true) (hm : behindInMarks op b = false) (ha : PE X a (rdE (rc X ad) lt E (evE C x))) (hb : PE X b (rdE (rc X ad) lt E (evE C y))) :
    PT X (.Compare a [op] [b] pos) (rdT (rc X ad) lt E (evT (evE C (.cmp o x y)))) := by
  refine PT.imp (pt_cmpR (q_all (ad := ad) hu h) ha hb hm) fun σ H Q h => ?_
  have h := rdT_of h
  have hf : evE C (.cmp o x y) = ev2 (evE C x) (evE C y) (k2 (evC o)) := by funext δ; simp only [evE]
  rw [hf] at h
  exact rd2 h fun u v H1 q => st2_sc q
end
end EL

set_option Elab.async false
set_option linter.all false
set_option maxRecDepth 100000
set_option maxHeartbeats 1000000
/-! and, or, not, if-else; chains; subscripts, slices -/
namespace EL
open PySem PySem.Spec PyProof.Rows L2
section
variable {X : Cx} {ad : Nat → Addr} {lt : Bool} {E : Wx} {C : Cn} {a b c : Expr} {pos : Pos} {x y z : ME} {rest : List Expr}
/-- a bool, then more -/
theorem rd_bl {f : Ds → Oc Rv} {k : Bool → Ds → Oc Rv} {σ : L2.St} {H : Hp} {Q Q1 : VK}
    (h : rdE (rc X ad) lt E (fun δ => (f δ).bind fun r δ1 => match r with | .im (.bl b) => k b δ1 | _ => .bad) σ H Q)
    (hq : ∀ b H1, rdE (rc X ad) lt E (k b) σ H1 Q → Q1 (.bl b) H1) : rdE (rc X ad) lt E f σ H Q1 := by
  obtain ⟨Φ, δ, e1, e2, R0, p⟩ := h
  refine ⟨Φ, δ, e1, e2, R0, ?_⟩
  cases hf : f δ with
  | bad => simp only [hf] at p; exact p
  | ex c δ1 => simp only [hf] at p; exact p
  | ok r δ1 =>
    simp only [hf, Oc.bind] at p
    intro v H1 ok
    split at p
    · rename_i b
      obtain ⟨R1, g1, h1⟩ := ok
      rw [Rep.bl_iff.mp h1]
      exact hq b H1 ⟨Φ, δ1, e1, e2, R1, PostE.weak g1 p⟩
    · exact p.elim
theorem rd_blT {f : Ds → Oc Rv} {k : Bool → Ds → Oc Rv} {σ : L2.St} {H : Hp} {Q : Bool → Hp → Prop} {Q1 : Bool → Hp → Prop}
    (h : rdT (rc X ad) lt E (evT fun δ => (f δ).bind fun r δ1 => match r with | .im (.bl b) => k b δ1 | _ => .bad) σ H Q)
    (hq : ∀ b H1, rdT (rc X ad) lt E (evT (k b)) σ H1 Q → Q1 b H1) : rdT (rc X ad) lt E (evT f) σ H Q1 := by
  obtain ⟨Φ, δ, e1, e2, R0, p⟩ := h
  refine ⟨Φ, δ, e1, e2, R0, ?_⟩
  unfold evT at p ⊢
  cases hf : f δ with
  | bad => simp only [hf] at p; exact p
  | ex c δ1 => simp only [hf] at p; exact p
  | ok r δ1 =>
    simp only [hf, Oc.bind] at p ⊢
    cases r with
    | im d =>
      cases d with
      | bl b =>
        intro H1 R1 g1
        exact hq b H1 ⟨Φ, δ1, e1, e2, R1, PostB.weak g1 p⟩
      | _ => exact p.elim
    | _ => exact p.elim
theorem rd_blM {f : Ds → Oc Rv} {k : Bool → Ds → Oc Rv} {σ : L2.St} {H : Hp} {Q1 : Bool → Hp → Prop} {Q2 : VK}
    (h : rdE (rc X ad) lt E (fun δ => (f δ).bind fun r δ1 => match r with | .im (.bl b) => k b δ1 | _ => .bad) σ H Q2)
    (hq : ∀ b H1, rdE (rc X ad) lt E (k b) σ H1 Q2 → Q1 b H1) : rdT (rc X ad) lt E (evT f) σ H Q1 := by
  obtain ⟨Φ, δ, e1, e2, R0, p⟩ := h
  refine ⟨Φ, δ, e1, e2, R0, ?_⟩
  unfold evT
  cases hf : f δ with
  | bad => simp only [hf] at p; exact p
  | ex c δ1 => simp only [hf] at p; exact p
  | ok r δ1 =>
    simp only [hf, Oc.bind] at p ⊢
    cases r with
    | im d =>
      cases d with
      | bl b =>
        intro H1 R1 g1
        exact hq b H1 ⟨Φ, δ1, e1, e2, R1, PostE.weak g1 p⟩
      | _ => exact p.elim
    | _ => exact p.elim
theorem ev_and : evE C (.and x y) = fun δ => (evE C x δ).bind fun r δ1 => match r with | .im (.bl b) => (fun (b : Bool) (δ : Ds) => if b then evE C y δ else .ok (bB false) δ) b δ1 | _ => .bad := by
  funext δ
  simp only [evE]
  congr 1
  funext r δ1
  cases r with
  | im d => cases d with
    | bl b => cases b <;> rfl
    | _ => rfl
  | _ => rfl
theorem ev_or : evE C (.or x y) = fun δ => (evE C x δ).bind fun r δ1 => match r with | .im (.bl b) => (fun (b : Bool) (δ : Ds) => if b then .ok (bB true) δ else evE C y δ) b δ1 | _ => .bad := by
  funext δ
  simp only [evE]
  congr 1
  funext r δ1
  cases r with
  | im d => cases d with
    | bl b => cases b <;> rfl
    | _ => rfl
  | _ => rfl
theorem ev_not : evE C (.not x) = fun δ => (evE C x δ).bind fun r δ1 => match r with | .im (.bl b) => (fun (b : Bool) (δ : Ds) => .ok (bB (!b)) δ) b δ1 | _ => .bad := by
  funext δ
  simp only [evE]
  try congr 1
theorem ev_ite : evE C (.ite x y z) = fun δ => (evE C x δ).bind fun r δ1 => match r with | .im (.bl b) => (fun (b : Bool) (δ : Ds) => if b then evE C y δ else evE C z δ) b δ1 | _ => .bad := by
  funext δ
  simp only [evE]
  congr 1
  funext r δ1
  cases r with
  | im d => cases d with
    | bl b => cases b <;> rfl
    | _ => rfl
  | _ => rfl
theorem rd_bB {b : Bool} {σ : L2.St} {H : Hp} {Q : VK} (h : rdE (rc X ad) lt E (fun δ => .ok (bB b) δ) σ H Q) : Q (.bl b) H := by
  obtain ⟨Φ, δ, e1, e2, R0, p⟩ := h
  exact post_sc R0 p rfl
theorem rd_bBT {b : Bool} {σ : L2.St} {H : Hp} {Q : Bool → Hp → Prop} (h : rdT (rc X ad) lt E (evT fun δ => .ok (bB b) δ) σ H Q) : Q b H := by
  obtain ⟨Φ, δ, e1, e2, R0, p⟩ := h
  exact p H R0 (Gr.refl _)
theorem e_and (ha : PE X a (rdE (rc X ad) lt E (evE C x))) (hb : PE X (.BoolOp .And (b :: rest) pos) (rdE (rc X ad) lt E (evE C y))) : PE X (.BoolOp .And (a :: b :: rest) pos) (rdE (rc X ad) lt E (evE C (.and x y))) :=
  PE.imp (pe_and ha hb) fun σ H Q h => by
    rw [ev_and] at h
    refine rd_bl h fun k H1 q => ⟨k, rfl, ?_⟩
    cases k with
    | true => exact q
    | false => exact rd_bB q
theorem e_or (ha : PE X a (rdE (rc X ad) lt E (evE C x))) (hb : PE X (.BoolOp .Or (b :: rest) pos) (rdE (rc X ad) lt E (evE C y))) : PE X (.BoolOp .Or (a :: b :: rest) pos) (rdE (rc X ad) lt E (evE C (.or x y))) :=
  PE.imp (pe_or ha hb) fun σ H Q h => by
    rw [ev_or] at h
    refine rd_bl h fun k H1 q => ⟨k, rfl, ?_⟩
    cases k with
    | true => exact rd_bB q
    | false => exact q
theorem e_not (ha : PE X a (rdE (rc X ad) lt E (evE C x))) : PE X (.UnaryOp .Not a pos) (rdE (rc X ad) lt E (evE C (.not x))) :=
  PE.imp (pe_not ha) fun σ H Q h => by
    rw [ev_not] at h
    exact rd_bl h fun k H1 q => ⟨k, rfl, rd_bB q⟩
theorem w_and (ha : PT X a (rdT (rc X ad) lt E (evT (evE C x)))) (hb : PW X (.BoolOp .And (b :: rest) pos) (rdT (rc X ad) lt E (evT (evE C y)))) : PW X (.BoolOp .And (a :: b :: rest) pos) (rdT (rc X ad) lt E (evT (evE C (.and x y)))) :=
  PW.imp (pw_and ha hb) fun σ H Q h => by
    rw [ev_and] at h
    refine rd_blT h fun k H1 q => ?_
    cases k with
    | true => exact q
    | false => exact rd_bBT q
theorem w_or (ha : PT X a (rdT (rc X ad) lt E (evT (evE C x)))) (hb : PW X (.BoolOp .Or (b :: rest) pos) (rdT (rc X ad) lt E (evT (evE C y)))) : PW X (.BoolOp .Or (a :: b :: rest) pos) (rdT (rc X ad) lt E (evT (evE C (.or x y)))) :=
  PW.imp (pw_or ha hb) fun σ H Q h => by
    rw [ev_or] at h
    refine rd_blT h fun k H1 q => ?_
    cases k with
    | true => exact rd_bBT q
    | false => exact q
theorem t_not (ha : PT X a (rdT (rc X ad) lt E (evT (evE C x)))) : PT X (.UnaryOp .Not a pos) (rdT (rc X ad) lt E (evT (evE C (.not x)))) :=
  PT.imp (pt_not ha) fun σ H Q h => by
    rw [ev_not] at h
    exact rd_blT h fun k H1 q => rd_bBT q
theorem e_ite (hc : PT X c (rdT (rc X ad) lt E (evT (evE C x)))) (ha : PE X a (rdE (rc X ad) lt E (evE C y))) (hb : PE X b (rdE (rc X ad) lt E (evE C z))) : PE X (.IfExp c a b pos) (rdE (rc X ad) lt E (evE C (.ite x y z))) :=
  PE.imp (pe_ifExp hc ha hb) fun σ H Q h => by
    rw [ev_ite] at h
    refine rd_blM h fun k H1 q => ?_
    cases k with
    | true => exact q
    | false => exact q

/-! ### chains -/
theorem rd_chain {o o' : C2} {σ : L2.St} {H : Hp} {Q : VK} (h : rdE (rc X ad) lt E (evE C (.chain o o' x y z)) σ H Q) :
    tChain (rOf X ad (evC o)) (rOf X ad (evC o')) (rdE (rc X ad) lt E (evE C x)) (rdE (rc X ad) lt E (evE C y)) (rdE (rc X ad) lt E (evE C z)) σ H Q := by
  have hf : evE C (.chain o o' x y z) = ev2 (evE C x) (evE C y) fun ra rb δ2 => (k2 (evC o) ra rb δ2).bind fun r δ3 => match r with
    | .im (.bl true) => (evE C z δ3).bind fun rc δ4 => k2 (evC o') rb rc.seen δ4
    | .im (.bl false) => .ok (bB false) δ3
    | _ => .bad := by
    funext δ
    simp only [evE, ev2]
    try rfl
  rw [hf] at h
  refine rd2 h fun u v H1 q => ?_
  obtain ⟨Φ, δ, r, w, rfl', e2, R0, v1, v2, p⟩ := q
  simp only [k2] at p
  cases ea : look r δ with
  | none => simp only [ea] at p; exact p.elim
  | some a =>
    cases eb : look w δ with
    | none => simp only [ea, eb] at p; exact p.elim
    | some b =>
      cases ef : evC o a b with
      | none => simp only [ea, eb, ef] at p; exact p.elim
      | some d =>
        simp only [ea, eb, ef, Oc.bind] at p
        refine ⟨a, b, d, rfl' ▸ v1.full R0 ea, rfl' ▸ v2.full R0 eb, ef, fun vv hv => ?_⟩
        cases d with
        | bl k =>
          cases hv
          cases k with
          | true =>
            refine ⟨true, rfl, ?_⟩
            rw [if_pos rfl]
            refine ⟨Φ, δ, rfl', e2, R0, ?_⟩
            simp only at p
            cases hz : evE C z δ with
            | bad => rw [hz] at p; exact p
            | ex c δ3 => rw [hz] at p; exact p
            | ok rz δ3 =>
              rw [hz] at p
              intro vz H3 ok
              obtain ⟨R3, g3, v3⟩ := ok.rl
              have p := PostE.weak g3 p
              simp only [k2] at p
              cases ea' : look w δ3 with
              | none => simp only [ea'] at p; exact p.elim
              | some a' =>
                cases eb' : look rz.seen δ3 with
                | none => simp only [ea', eb'] at p; exact p.elim
                | some b' =>
                  cases ef' : evC o' a' b' with
                  | none => simp only [ea', eb', ef'] at p; exact p.elim
                  | some d' =>
                    simp only [ea', eb', ef'] at p
                    exact ⟨a', b', d', rfl' ▸ (v2.step g3).full R3 ea', rfl' ▸ v3.full R3 eb', ef', fun vv hv => post_sc R3 p hv⟩
          | false =>
            refine ⟨false, rfl, ?_⟩
            rw [if_neg (by decide)]
            exact post_sc R0 p rfl
        | _ => exact p.elim
theorem e_chain (hu : X.A.units + 100 < cLine) {o o' : C2} {op op' : CmpOp} (h : c2B o op = true) (h' : c2B o' op' = true) (ha : PE X a (rdE (rc X ad) lt E (evE C x))) (hb : PE X b (rdE (rc X ad) lt E (evE C y))) (hc : PE X c (rdE (rc X ad) lt E (evE C z)))
    (hm : lastMarks [op, op'] [b, c] = false) : PE X (.Compare a [op, op'] [b, c] pos) (rdE (rc X ad) lt E (evE C (.chain o o' x y z))) :=
  PE.imp (pe_chain (q_all (ad := ad) hu h) (q_all (ad := ad) hu h') ha hb hc hm) fun σ H Q q => rd_chain q
theorem t_chain (hu : X.A.units + 100 < cLine) {o o' : C2} {op op' : CmpOp} (h : c2B o op = true) (h' : c2B o' op' = true) (ha : PE X a (rdE (rc X ad) lt E (evE C x))) (hb : PE X b (rdE (rc X ad) lt E (evE C y))) (hc : PE X c (rdE (rc X ad) lt E (evE C z)))
    (hm : lastMarks [op, op'] [b, c] = false) : PT X (.Compare a [op, op'] [b, c] pos) (rdT (rc X ad) lt E (evT (evE C (.chain o o' x y z)))) :=
  PT.imp (pt_chain (q_all (ad := ad) hu h) (q_all (ad := ad) hu h') ha hb hc hm) fun σ H Q q => rd_chain (rdT_of q)

/-! ### subscripts -/
end
section
variable {Φ : Fr} {E : Wx} {σ : L2.St} {δ : Ds} {H : Hp} {r : Rv} {v : V}
theorem ValOk.dic {ks ds : List D} (R : Rl Φ X0 δ σ H) (h : ValOk Φ σ δ H r v) (e : look r δ = some (.dic ks ds)) : ∃ a rows, v = .ref a ∧ Rd H a (dicO a rows) ∧ DicP Φ.R (gG Φ X0 δ σ H) rows ks ds := by
  have im_ : ∀ w, Rep Φ.R (gG Φ X0 δ σ H) (.dic ks ds) w → ∃ a rows, w = .ref a ∧ Rd H a (dicO a rows) ∧ DicP Φ.R (gG Φ X0 δ σ H) rows ks ds := fun w q => by
    simp only [Rep] at q
    obtain ⟨a, rows, e, s, hh, r1, r2⟩ := q
    exact ⟨a, rows, e, hid_le _ _ _ _ s, hh, r1, r2⟩
  cases r with
  | im d' =>
    cases e
    exact im_ _ h
  | fr d' => exact h.elim
  | pk i =>
    have h1 : σ[i]? = some (some v) := h
    simp only [look] at e
    split at e
    · rename_i d' q
      cases e
      obtain ⟨a, e1, o, e2, rows, e3, e4⟩ := R.ow i _ q
      rw [h1] at e1
      cases e1
      subst e3
      exact ⟨a, rows, rfl, .inl e2, e4⟩
    · rename_i d' q
      cases e
      obtain ⟨w, e1, e2⟩ := R.im i _ q
      rw [h1] at e1
      cases e1
      exact im_ _ e2
    · cases e
end
theorem atI_reps {R : RC} {G : Hp} {ds : List D} {vs : List V} {i : Int} {d : D} (h : Reps R G ds vs) (e : atI ds i = some d) : ∃ v, atI vs i = some v ∧ Rep R G d v := by
  unfold atI at e ⊢
  rw [h.length] at e
  cases q : ixN vs.length i with
  | none => rw [q] at e; cases e
  | some j => rw [q] at e; exact h.get e
/-- a[b] of data -/
def rIxA (X : Cx) (ad : Nat → Addr) (lt : Bool) (E : Wx) (σ : L2.St) : R2 := fun x y H Q => rIx X.K x y H Q ∨ ∃ (Φ : Fr) (δ : Ds) (a : Addr) (rows : List DictEntry) (ks ds : List D) (k d : D), Φ.R = rc X ad ∧ Rl Φ X0 δ σ H ∧ x = .ref a ∧ Rd H a (dicO a rows) ∧ DicP (rc X ad) (gG Φ X0 δ σ H) rows ks ds ∧
  kSort ks k = true ∧ dlook ks ds k = some d ∧ Rep (rc X ad) H k y ∧ ∀ v, Rep (rc X ad) (gG Φ X0 δ σ H) d v → Q v H
section
variable {X : Cx} {ad : Nat → Addr} {lt : Bool} {E : Wx} {C : Cn} {a b c : Expr} {pos : Pos} {x y z : ME} {rest : List Expr}
theorem s_ix {σ : L2.St} {H : Hp} {Q : VK} {u v : V} (h : St2 (rc X ad) lt E σ kIx u v H Q) : rIxA X ad lt E σ u v H Q := by
  obtain ⟨Φ, δ, r, w, e1, e2, R0, v1, v2, p⟩ := h
  have eK : Φ.R.K = X.K := by rw [e1]; rfl
  unfold kIx at p
  split at p
  · rename_i ds i ea eb
    obtain ⟨a, vs, h1, h2, h3⟩ := v1.lst R0 ea
    have k1 := Rep.int_iff.mp (v2.full R0 eb)
    split at p
    · rename_i d hd
      obtain ⟨vv, q1, q2⟩ := atI_reps h3 hd
      exact .inl (.inl ⟨a, vs, i, vv, h1, k1, eK ▸ h2, q1, post_im R0 p q2⟩)
    · exact p.elim
  · rename_i ds i ea eb
    obtain ⟨a, vs, h1, h2, h3⟩ := v1.tup R0 ea
    have k1 := Rep.int_iff.mp (v2.full R0 eb)
    split at p
    · rename_i d hd
      obtain ⟨vv, q1, q2⟩ := atI_reps h3 hd
      exact .inl (.inr (.inl ⟨a, vs, i, vv, h1, k1, eK ▸ gT h2, q1, post_im R0 p q2⟩))
    · exact p.elim
  · rename_i ds i ea eb
    have h1 := Rep.str_iff.mp (v1.full R0 ea)
    have k1 := Rep.int_iff.mp (v2.full R0 eb)
    split at p
    · rename_i hz
      split at p
      · rename_i ch hd
        exact .inl (.inr (.inr ⟨_, i, ch, h1, k1, of_decide_eq_true hz, hd, post_sc R0 p rfl⟩))
      · exact p.elim
    · exact p.elim
  · rename_i ks vs k ea eb
    obtain ⟨a, rows, h1, h2, h3⟩ := v1.dic R0 ea
    have k1 := v2.full R0 eb
    split at p
    · rename_i hs
      split at p
      · rename_i d hd
        exact .inr ⟨Φ, δ, a, rows, ks, vs, k, d, e1, R0, h1, h2, e1 ▸ h3, hs, hd, e1 ▸ k1, fun v hv => post_im R0 p (e1 ▸ hv)⟩
      · exact p.elim
    · exact p.elim
  · exact p.elim
theorem e_ix (hu : X.A.units + 100 < cLine) (hs : isSliceE b = false) (ha : PE X a (rdE (rc X ad) lt E (evE C x))) (hb : PE X b (rdE (rc X ad) lt E (evE C y))) : PE X (.Subscript a b pos) (rdE (rc X ad) lt E (evE C (.ix x y))) := by
  refine ⟨fun pins s σ H Q I h => ?_⟩
  have hf : evE C (.ix x y) = ev2 (evE C x) (evE C y) kIx := by funext δ; simp only [evE]
  rw [hf] at h
  have h := rd2 h fun u v H1 q => s_ix q
  refine Subscript_ (binT ha hb I h fun v u s2 vx vy H2 I2 rx ry q => ?_)
  rcases q with q | ⟨Φ, δ, p, rows, ks, ds, k, d, e1, R0, rfl, h2, h3, hk, hd, hy, hq⟩
  · exact ix_seq a b pins s2 σ H2 vx vy v u Q I2 rx ry q (ix_plain hs _ _)
  · cases rx
    obtain ⟨t1, t2⟩ := c_get hu I2 (fun b vs q => (hid_le _ _).sqT q) h2 h3 hk hy ry hd (Q := EP X pins σ Q) (E := X.xe) fun v' u' s' I' rv hr => ⟨v', H2, I', rv, hq v' hr⟩
    exact tail_any t1 slot_dict_getitem.lookup t2 (ix_plain hs _ _)
end
end EL

set_option Elab.async false
set_option linter.all false
set_option maxRecDepth 100000
set_option maxHeartbeats 1000000
/-! slices, calls -/
namespace EL
open PySem PySem.Spec PyProof.Rows L2
section
variable {X : Cx} {ad : Nat → Addr} {lt : Bool} {E : Wx} {C : Cn} {a b c : Expr} {pos : Pos} {x y z : ME} {rest : List Expr}
theorem cut_reps {R : RC} {G : Hp} {ds : List D} {vs : List V} (h : Reps R G ds vs) (lo hi : Option Int) : Reps R G (cutD ds lo hi) (cutV vs lo hi) := by
  unfold cutD cutV
  rw [h.length]
  exact (h.drop _).take _
def rSlB (K : PySem.W.Frag) : V → Option Int → Option Int → Hp → VK → Prop := fun x lo hi H Q => rSlL K x lo hi H Q ∨ rSlA K x lo hi H Q
theorem cut_whole {α : Type} (xs : List α) {lo hi : Option Int} (h : HT.sIx xs.length 0 lo = 0 ∧ HT.sIx xs.length xs.length hi = xs.length) : (xs.drop (HT.sIx xs.length 0 lo)).take (HT.sIx xs.length xs.length hi - HT.sIx xs.length 0 lo) = xs := by
  rw [h.1, h.2]
  simp
theorem s_cut {σ : L2.St} {H : Hp} {Q : VK} {v : V} {lo hi : Option Int} (h : St1 (rc X ad) lt E σ (kCut lo hi) v H Q) : rSlB X.K v lo hi H Q := by
  obtain ⟨Φ, δ, r, e1, e2, R0, v1, p⟩ := h
  have eK : Φ.R.K = X.K := by rw [e1]; rfl
  unfold kCut at p
  split at p
  · rename_i ds ea
    obtain ⟨a, vs, h1, h2, h3⟩ := v1.lst R0 ea
    exact .inl ⟨a, vs, h1, eK ▸ h2, fun q hq => post_lst R0 p (cut_reps h3 lo hi) hq⟩
  · rename_i ds ea
    obtain ⟨a, vs, h1, h2, h3⟩ := v1.tup R0 ea
    refine .inr ⟨a, vs, h1, eK ▸ gT h2, fun hw => ?_, fun _ q hq => post_tup R0 p (cut_reps h3 lo hi) hq⟩
    have hw' : cutD ds lo hi = ds := by
      unfold cutD
      rw [← h3.length] at hw
      exact cut_whole ds hw
    rw [hw'] at p
    exact post_im R0 p (Rep.tup_iff.mpr ⟨a, vs, rfl, h2, h3⟩)
  · exact p.elim
theorem look_seen (r : Rv) (δ : Ds) : look r.seen δ = look r δ := by cases r <;> rfl
/-- a slice's part, with the value that is cut at hand -/
theorem rd_part {m : ME} {σ : L2.St} {H : Hp} {Q : VK} {v : V} {K : Option Int → Rv → Ds → Oc Rv}
    (h : St1 (rc X ad) lt E σ (fun ra δ => (evE C m δ).bind fun rl δ2 => match part? rl δ2 with | some l => K l ra δ2 | none => .bad) v H Q) :
    tPart (rdE (rc X ad) lt E (evE C m)) σ H fun l H2 => St1 (rc X ad) lt E σ (K l) v H2 Q := by
  obtain ⟨Φ, δ, r, e1, e2, R0, v1, p⟩ := h
  refine ⟨Φ, δ, e1, e2, R0, ?_⟩
  cases hf : evE C m δ with
  | bad => simp only [hf] at p; exact p
  | ex c δ1 => simp only [hf] at p; exact p
  | ok rl δ1 =>
    simp only [hf, Oc.bind] at p
    intro w H1 ok
    obtain ⟨R1, g1, v2⟩ := ok.rl
    unfold part? at p
    cases hl : look rl δ1 with
    | none => simp only [hl] at p; exact p.elim
    | some d =>
      rw [hl] at p
      cases d with
      | int i =>
        refine ⟨i, Rep.int_iff.mp (v2.full R1 (by rw [look_seen]; exact hl)), Φ, δ1, r, e1, e2, R1, v1.step g1, PostE.weak g1 p⟩
      | _ => exact p.elim
theorem ev_cut00 {m : ME} : evE C (.cut m .nil .nil) = ev1 (evE C m) (kCut none none) := by
  funext δ; simp only [evE, ev1]
theorem ev_cut01 {m h : ME} (nh : h ≠ .nil) : evE C (.cut m .nil h) = ev1 (evE C m) fun ra δ1 => (evE C h δ1).bind fun rh δ2 => match part? rh δ2 with | some h => kCut none h ra δ2 | none => .bad := by
  funext δ; simp only [evE, ev1]; try rfl
theorem ev_cut10 {m l : ME} (nl : l ≠ .nil) : evE C (.cut m l .nil) = ev1 (evE C m) fun ra δ1 => (evE C l δ1).bind fun rl δ2 => match part? rl δ2 with | some l => kCut l none ra δ2 | none => .bad := by
  funext δ; simp only [evE, ev1]; try rfl
theorem rdE_imp {f : Ds → Oc Rv} {σ : L2.St} {H : Hp} {Q Q' : VK} (h : rdE (rc X ad) lt E f σ H Q) (hq : ∀ v H, Q v H → Q' v H) : rdE (rc X ad) lt E f σ H Q' := by
  obtain ⟨Φ, δ, e1, e2, R0, p⟩ := h
  refine ⟨Φ, δ, e1, e2, R0, ?_⟩
  revert p
  cases f δ with
  | bad => exact id
  | ex c δ1 => exact id
  | ok r δ1 => exact fun p v H ok => hq v H (p v H ok)
theorem e_cut00 {p2 : Pos} (ha : PE X a (rdE (rc X ad) lt E (evE C x))) : PE X (.Subscript a (.Slice none none none p2) pos) (rdE (rc X ad) lt E (evE C (.cut x .nil .nil))) :=
  PE.imp (pe_slice (sl_list.or sl_tupA) ha po_none po_none) fun σ H Q h => by
    rw [ev_cut00] at h
    exact rd1 h fun u H1 q => s_cut q
theorem e_cut01 {p2 : Pos} (ny : y ≠ .nil) (ha : PE X a (rdE (rc X ad) lt E (evE C x))) (hb : PE X b (rdE (rc X ad) lt E (evE C y))) : PE X (.Subscript a (.Slice none (some b) none p2) pos) (rdE (rc X ad) lt E (evE C (.cut x .nil y))) :=
  PE.imp (pe_slice (sl_list.or sl_tupA) ha po_none (po_some hb)) fun σ H Q h => by
    rw [ev_cut01 ny] at h
    refine rd1 h fun u H1 q => ?_
    exact rdE_imp (rd_part (K := fun h ra δ2 => kCut none h ra δ2) q) fun v H2 ⟨i, e, q2⟩ => ⟨i, e, s_cut q2⟩
theorem e_cut10 {p2 : Pos} (ny : y ≠ .nil) (ha : PE X a (rdE (rc X ad) lt E (evE C x))) (hb : PE X b (rdE (rc X ad) lt E (evE C y))) : PE X (.Subscript a (.Slice (some b) none none p2) pos) (rdE (rc X ad) lt E (evE C (.cut x y .nil))) :=
  PE.imp (pe_slice (sl_list.or sl_tupA) ha (po_some hb) po_none) fun σ H Q h => by
    rw [ev_cut10 ny] at h
    refine rd1 h fun u H1 q => ?_
    exact rdE_imp (rd_part (K := fun h ra δ2 => kCut h none ra δ2) q) fun v H2 ⟨i, e, q2⟩ => ⟨i, e, s_cut q2⟩
theorem ev_cut11 {m l h : ME} (nl : l ≠ .nil) (nh : h ≠ .nil) : evE C (.cut m l h) = ev1 (evE C m) fun ra δ1 => (evE C l δ1).bind fun rl δ2 => match part? rl δ2 with
    | some l => (evE C h δ2).bind fun rh δ3 => (match part? rh δ3 with | some h => kCut l h ra δ3 | none => .bad)
    | none => .bad := by
  funext δ
  simp only [evE, ev1]
  cases l <;> cases h <;> first | rfl | exact absurd rfl nl | exact absurd rfl nh
theorem e_cut11 {p2 : Pos} (ny : y ≠ .nil) (nz : z ≠ .nil) (ha : PE X a (rdE (rc X ad) lt E (evE C x))) (hb : PE X b (rdE (rc X ad) lt E (evE C y))) (hc : PE X c (rdE (rc X ad) lt E (evE C z))) :
    PE X (.Subscript a (.Slice (some b) (some c) none p2) pos) (rdE (rc X ad) lt E (evE C (.cut x y z))) :=
  PE.imp (pe_slice (sl_list.or sl_tupA) ha (po_some hb) (po_some hc)) fun σ H Q h => by
    rw [ev_cut11 ny nz] at h
    refine rd1 h fun u H1 q => ?_
    have h2 := rd_part (K := fun l ra δ2 => (evE C z δ2).bind fun rh δ3 => (match part? rh δ3 with | some h => kCut l h ra δ3 | none => .bad)) q
    refine rdE_imp h2 fun v H2 ⟨i, e, q2⟩ => ⟨i, e, ?_⟩
    have h3 := rd_part (K := fun h ra δ3 => kCut (some i) h ra δ3) q2
    exact rdE_imp h3 fun v H3 ⟨j, e, q3⟩ => ⟨j, e, s_cut q3⟩
end
end EL

set_option Elab.async false
set_option linter.all false
set_option maxRecDepth 100000
set_option maxHeartbeats 1000000
/-! calls of the text's defs -/
namespace EL
open PySem PySem.Spec PyProof.Rows L2
section
variable {X : Cx} {ad : Nat → Addr} {lt : Bool} {E : Wx} {C : Cn} {e : Expr} {es : List Expr} {pos p : Pos} {m : ME}
variable {k : Nat} {fa : Addr} {fd : FuncData} {ps : List Str} {x : Str} {f : Nat}
theorem rd_call {σ : L2.St} {H : Hp} {Q : VK} (h : rdE (rc X ad) lt E (evE C (.call f m)) σ H Q) : tCallS (spF (rc X ad) (C.call f)) (WE (Wk ad E)) (rdA (rc X ad) lt E (evL C m)) σ H Q := by
  obtain ⟨Φ, δ, e1, e2, R0, p⟩ := h
  refine ⟨Φ, δ, e1, e2, R0, ?_⟩
  simp only [evE] at p
  cases hl : evL C m δ with
  | bad => simp only [hl] at p; exact p
  | ex c δ1 => simp only [hl] at p; exact p
  | ok rs δ1 =>
    simp only [hl, Oc.bind] at p
    intro vs H1 R1 g1 v1
    have p := PostE.weak g1 p
    cases hd : looks rs δ1 with
    | none => simp only [hd] at p; exact p.elim
    | some ds =>
      simp only [hd] at p
      have p : PostE Φ E σ (gG Φ X0 δ1 σ H1) (callO lt δ1 rs (C.call f (ds.map .im))) Q := by
        cases hc : C.call f (ds.map .im) with
        | ret r l => simp only [hc] at p; exact p
        | ex c => simp only [hc] at p; exact p
        | bad => simp only [hc] at p; exact p
      have q := call_in R1 v1 hd p
      rw [e1] at q
      exact q
theorem e_call (F : FnOk X.prog X.w X.K X.mg X.base (L2.CX X.prog X.w) k fa fd ps (spF (rc X ad) (C.call f))) (hr : Room k X.A) (hg : Gl X x) (hm : X.mg x = some (.ref fa)) (hk : PySem.W.keepIn X.K (.ref fa) = true) (hb : Binds X.K fd ps [])
    (tk : Takes X (Wk ad E)) (ha : PA X (e :: es) (rdA (rc X ad) lt E (evL C m))) (hx : okNm x = true) (hs : (e :: es).all (fun e => !isStar e) = true) :
    PE X (.Call (.Name x p) (e :: es) [] pos) (rdE (rc X ad) lt E (evE C (.call f m))) := by
  rw [List.all_cons, Bool.and_eq_true] at hs
  exact PE.imp (pe_callS F hr hg hm hk hb (passAt tk) ha (okNm_dbg hx) (star_no (by simpa using hs.1) es X.env) (back_any pos X.env hs.2)) fun σ H Q h => rd_call h
theorem e_call0 (F : FnOk X.prog X.w X.K X.mg X.base (L2.CX X.prog X.w) k fa fd ps (spF (rc X ad) (C.call f))) (hr : Room k X.A) (hg : Gl X x) (hm : X.mg x = some (.ref fa)) (hk : PySem.W.keepIn X.K (.ref fa) = true) (hb : Binds X.K fd ps [])
    (tk : Takes X (Wk ad E)) (hx : okNm x = true) : PE X (.Call (.Name x p) [] [] pos) (rdE (rc X ad) lt E (evE C (.call f .nil))) := by
  refine ⟨fun pins s σ H Q I h => ?_⟩
  have h := rd_call h
  obtain ⟨Φ, δ, e1, e2, R0, q⟩ := h
  simp only [evL] at q
  refine wpAny_Call_Name_kw (ld_glob I hg hm ?_ (okNm_dbg hx))
  exact PySem.W.callWith_K0 I.kIn hk (run_fnS (us := []) F hr hb (passAt tk σ) I .nil (q [] H R0 (Gr.refl _) rfl))
theorem rd_callW {i : Nat} {σ : L2.St} {H : Hp} {Q : VK} (hlt : C.lt = lt) (h : rdE (rc X ad) lt E (evE C (.callW f i m)) σ H Q) : tCallS (spF (rc X ad) (C.call f)) (WE (Wk ad E)) (tCons (tVar i) (rdA (rc X ad) lt E (evL C m))) σ H Q := by
  obtain ⟨Φ, δ, e1, e2, R0, p⟩ := h
  simp only [evE] at p
  split at p
  · rename_i d0 hi0
    obtain ⟨a, h0, _⟩ := R0.ow i d0 hi0
    refine ⟨.ref a, h0, Φ, δ, e1, e2, R0, ?_⟩
    cases hl : evL C m δ with
    | bad => simp only [hl] at p; exact p
    | ex c δ1 => simp only [hl] at p; exact p
    | ok rs δ1 =>
      simp only [hl, Oc.bind] at p
      intro vs H1 R1 g1 v1
      have p := PostE.weak g1 p
      cases hd : looks rs δ1 with
      | none => simp only [hd] at p; exact p.elim
      | some ds =>
        simp only [hd] at p
        split at p
        · rename_i ds' d hz1 hz2
          cases hz1
          split at p
          · exact p.elim
          · rename_i hn
            have p : PostE Φ E σ (gG Φ X0 δ1 σ H1) (callWO lt i δ1 (C.call f (.ow d :: ds.map .im))) Q := by
              cases hc : C.call f (.ow d :: ds.map .im) with
              | ret r l => simp only [hc] at p; exact p
              | ex c => simp only [hc, hlt] at p; exact p
              | bad => simp only [hc] at p; exact p
            have q := callW_in R1 e2 v1 hd (by simpa using hn) hz2 h0 p
            rw [e1] at q
            exact q
        · exact p.elim
  · exact p.elim
theorem e_callW {i : Nat} {y : Str} {py : Pos} (hlt : C.lt = lt) (F : FnOk X.prog X.w X.K X.mg X.base (L2.CX X.prog X.w) k fa fd ps (spF (rc X ad) (C.call f))) (hr : Room k X.A) (hg : Gl X x) (hm : X.mg x = some (.ref fa)) (hk : PySem.W.keepIn X.K (.ref fa) = true) (hb : Binds X.K fd ps [])
    (tk : Takes X (Wk ad E)) (hN : X.N[i]? = some y) (hv : visB X.env.scope y = true) (hy : okNm y = true) (ha : PA X es (rdA (rc X ad) lt E (evL C m))) (hx : okNm x = true) (hs : es.all (fun e => !isStar e) = true) :
    PE X (.Call (.Name x p) (.Name y py :: es) [] pos) (rdE (rc X ad) lt E (evE C (.callW f i m))) := by
  refine PE.imp (pe_callS F hr hg hm hk hb (passAt tk) (pa_cons (pe_var (i := i) hN (vis_of hv) (okNm_dbg hy) (okNm_cd hy)) ha (star_no rfl es X.env)) (okNm_dbg hx) (star_no rfl es X.env) (back_any pos X.env hs)) fun σ H Q h => rd_callW hlt h
end
end EL

set_option Elab.async false
set_option linter.all false
set_option maxRecDepth 100000
set_option maxHeartbeats 1000000
/-! built-ins -/
namespace EL
open PySem PySem.Spec PyProof.Rows L2
section
variable {Φ : Fr} {E : Wx} {σ : L2.St} {δ : Ds} {H : Hp} {r : Rv} {v : V}
theorem vals_full (R : Rl Φ X0 δ σ H) : ∀ {rs : List Rv} {vs : List V} {ds : List D}, ValsOk Φ σ δ H rs vs → looks rs δ = some ds → Reps Φ.R H ds vs
  | [], _, _, h, e => by
    cases e
    have h' : _ = [] := h
    rw [h']
    exact Reps.nil
  | r :: rs, _, ds, ⟨v, us, e, h1, h2⟩, e2 => by
    subst e
    simp only [looks] at e2
    split at e2
    · rename_i d ds' ed eds
      cases e2
      exact Reps.cons (h1.full R ed) (vals_full R h2 eds)
    · cases e2
theorem vals1' {d : D} {rs : List Rv} {vs : List V} (h : ValsOk Φ σ δ H rs vs) (e : looks rs δ = some [d]) : ∃ r v, vs = [v] ∧ ValOk Φ σ δ H r v ∧ look r δ = some d := by
  cases rs with
  | nil => cases e
  | cons r rs =>
    obtain ⟨v, us, e1, h1, h2⟩ := h
    simp only [looks] at e
    split at e
    · rename_i d' ds' ed eds
      cases e
      cases rs with
      | nil =>
        have h' : us = [] := h2
        exact ⟨r, v, by rw [e1, h'], h1, ed⟩
      | cons r' rs' =>
        simp only [looks] at eds
        split at eds <;> cases eds
    · cases e
end
/-- a rule for a built-in -/
def BOk (X : Cx) (ad : Nat → Addr) (lt : Bool) (E : Wx) (r : List V → Hp → VK → Prop) (g : List D → Option Rv) : Prop :=
  ∀ (Φ : Fr) (δ : Ds) (σ : L2.St) (H : Hp) (rs : List Rv) (vs : List V) (ds : List D) (rv : Rv) (Q : VK), Φ.R = rc X ad → Φ.L.isSome = lt → Rl Φ X0 δ σ H → ValsOk Φ σ δ H rs vs → looks rs δ = some ds → g ds = some rv →
    PostE Φ E σ (gG Φ X0 δ σ H) (.ok rv δ) Q → r vs H Q
section
variable {X : Cx} {ad : Nat → Addr} {lt : Bool} {E : Wx} {C : Cn} {e : Expr} {es : List Expr} {pos p : Pos} {m : ME} {x : Str} {id T : String} {r : List V → Hp → VK → Prop} {b : Bf}
theorem rd_blt (hb : BOk X ad lt E r (evB1 b)) {σ : L2.St} {H : Hp} {Q : VK} (h : rdE (rc X ad) lt E (evE C (.blt b m)) σ H Q) : tCB r (rdA (rc X ad) lt E (evL C m)) σ H Q := by
  obtain ⟨Φ, δ, e1, e2, R0, p⟩ := h
  refine ⟨Φ, δ, e1, e2, R0, ?_⟩
  simp only [evE] at p
  cases hl : evL C m δ with
  | bad => simp only [hl] at p; exact p
  | ex c δ1 => simp only [hl] at p; exact p
  | ok rs δ1 =>
    simp only [hl, Oc.bind] at p
    intro vs H1 R1 g1 v1
    have p := PostE.weak g1 p
    cases hd : looks rs δ1 with
    | none => simp only [hd] at p; exact p.elim
    | some ds =>
      simp only [hd] at p
      cases hg : evB1 b ds with
      | none => simp only [hg] at p; exact p.elim
      | some rv =>
        simp only [hg] at p
        exact hb Φ δ1 σ H1 rs vs ds rv Q e1 e2 R1 v1 hd hg p
theorem e_bltF (hc : CallR X (.builtin id) r) (hb : BOk X ad lt E r (evB1 b)) (hg : Gl X x) (hm : X.mg x = none) (hv : bootBuiltins x = some (.builtin id)) (ha : PA X (e :: es) (rdA (rc X ad) lt E (evL C m))) (hx : okNm x = true)
    (hs : (e :: es).all (fun e => !isStar e) = true) : PE X (.Call (.Name x p) (e :: es) [] pos) (rdE (rc X ad) lt E (evE C (.blt b m))) := by
  rw [List.all_cons, Bool.and_eq_true] at hs
  exact PE.imp (pe_callB hc hg hm hv ha (okNm_nm hx) (okNm_dbg hx) (star_no (by simpa using hs.1) es X.env) (back_any pos X.env hs.2)) fun σ H Q h => rd_blt hb h
theorem e_bltT (hc : CallR X (.type T) r) (hb : BOk X ad lt E r (evB1 b)) (hg : Gl X x) (hm : X.mg x = none) (hv : bootBuiltins x = some (.type T)) (ha : PA X (e :: es) (rdA (rc X ad) lt E (evL C m))) (hx : okNm x = true)
    (hs : (e :: es).all (fun e => !isStar e) = true) : PE X (.Call (.Name x p) (e :: es) [] pos) (rdE (rc X ad) lt E (evE C (.blt b m))) := by
  rw [List.all_cons, Bool.and_eq_true] at hs
  exact PE.imp (pe_callTy hc hg hm hv ha (okNm_nm hx) (okNm_dbg hx) (star_no (by simpa using hs.1) es X.env) (back_any pos X.env hs.2)) fun σ H Q h => rd_blt hb h

/-! ### the rules -/
theorem ints_reps {R : RC} {G : Hp} : ∀ {ds : List D} {vs : List V} {ns : List Int}, ints? ds = some ns → Reps R G ds vs → vs = ns.map V.int
  | [], vs, ns, e, h => by
    cases e
    rw [h.inv0]; rfl
  | d :: ds, vs, ns, e, h => by
    obtain ⟨v, r, rfl, h1, h2⟩ := h.inv
    cases d <;> simp only [ints?] at e <;> first | (cases e; done) | skip
    rw [Option.map_eq_some_iff] at e
    obtain ⟨ns', e1, rfl⟩ := e
    rw [Rep.int_iff.mp h1, ints_reps e1 h2]; rfl
theorem bls_reps {R : RC} {G : Hp} : ∀ {ds : List D} {vs : List V} {ns : List Bool}, bls? ds = some ns → Reps R G ds vs → vs = ns.map V.bl
  | [], vs, ns, e, h => by
    cases e
    rw [h.inv0]; rfl
  | d :: ds, vs, ns, e, h => by
    obtain ⟨v, r, rfl, h1, h2⟩ := h.inv
    cases d <;> simp only [bls?] at e <;> first | (cases e; done) | skip
    rw [Option.map_eq_some_iff] at e
    obtain ⟨ns', e1, rfl⟩ := e
    rw [Rep.bl_iff.mp h1, bls_reps e1 h2]; rfl
theorem b_abs : BOk X ad lt E (fun xs H Q => ∃ i, xs = [.int i] ∧ Q (.int (if i < 0 then -i else i)) H) f_abs := by
  intro Φ δ σ H rs vs ds rv Q e1 e2 R v l g p
  unfold f_abs at g
  split at g
  · cases g
    have h := vals_full R v l
    obtain ⟨a, t, rfl, h1, h2⟩ := h.inv
    cases h2.inv0
    exact ⟨_, by rw [Rep.int_iff.mp h1], post_sc R p rfl⟩
  · cases g
theorem two_ints {Φ : Fr} {δ : Ds} {σ : L2.St} {H : Hp} {rs : List Rv} {vs : List V} {i j : Int} (R : Rl Φ X0 δ σ H) (v : ValsOk Φ σ δ H rs vs) (l : looks rs δ = some [.int i, .int j]) : vs = [.int i, .int j] := by
  have h := vals_full R v l
  obtain ⟨a, t, rfl, h1, h2⟩ := h.inv
  obtain ⟨b, t', rfl, h3, h4⟩ := h2.inv
  cases h4.inv0
  rw [Rep.int_iff.mp h1, Rep.int_iff.mp h3]
theorem b_max2 : BOk X ad lt E (fun xs H Q => ∃ i j, xs = [.int i, .int j] ∧ Q (.int (if j > i then j else i)) H) f_max2 := by
  intro Φ δ σ H rs vs ds rv Q e1 e2 R v l g p
  unfold f_max2 at g
  split at g
  · cases g
    exact ⟨_, _, two_ints R v l, post_sc R p rfl⟩
  · cases g
theorem b_min2 : BOk X ad lt E (fun xs H Q => ∃ i j, xs = [.int i, .int j] ∧ Q (.int (if j < i then j else i)) H) f_min2 := by
  intro Φ δ σ H rs vs ds rv Q e1 e2 R v l g p
  unfold f_min2 at g
  split at g
  · cases g
    exact ⟨_, _, two_ints R v l, post_sc R p rfl⟩
  · cases g
theorem b_divmod : BOk X ad lt E (fun xs H Q => ∃ i j, xs = [.int i, .int j] ∧ CDivP i j ∧ ∀ p, H p = none → Q (.ref p) (upd H p (.tup [.int (i / j), .int (i % j)]))) f_divmod := by
  intro Φ δ σ H rs vs ds rv Q e1 e2 R v l g p
  unfold f_divmod at g
  split at g
  · rename_i i j
    split at g
    · rename_i hc
      rw [Bool.and_eq_true] at hc
      cases g
      have hw := wide64 (i := i) (of_decide_eq_true hc.1) (of_decide_eq_true hc.2)
      exact ⟨i, j, two_ints R v l, ⟨of_decide_eq_true hc.1, PyProof.noPylong_of_log2 hw.2⟩, fun q hq => post_tup R p (.cons (Rep.int_iff.mpr rfl) (.cons (Rep.int_iff.mpr rfl) .nil)) hq⟩
    · cases g
  · cases g
theorem b_int : BOk X ad lt E (fun xs H Q => (∃ i, xs = [.int i] ∧ Q (.int i) H) ∨ ∃ k, xs = [.bl k] ∧ Q (.int (if k then 1 else 0)) H) f_int := by
  intro Φ δ σ H rs vs ds rv Q e1 e2 R v l g p
  unfold f_int at g
  split at g
  · cases g
    have h := vals_full R v l
    obtain ⟨a, t, rfl, h1, h2⟩ := h.inv
    cases h2.inv0
    exact .inl ⟨_, by rw [Rep.int_iff.mp h1], post_sc R p rfl⟩
  · cases g
    have h := vals_full R v l
    obtain ⟨a, t, rfl, h1, h2⟩ := h.inv
    cases h2.inv0
    exact .inr ⟨_, by rw [Rep.bl_iff.mp h1], post_sc R p rfl⟩
  · cases g
theorem b_list : BOk X ad lt E (fun xs H Q => ∃ p ys, xs = [.ref p] ∧ (SqL X.K H p ys ∨ SqT X.K H p ys) ∧ ∀ l, H l = none → Q (.ref l) (upd H l (.lst ys))) f_list := by
  intro Φ δ σ H rs vs ds rv Q e1 e2 R v l g p
  have eK : Φ.R.K = X.K := by rw [e1]; rfl
  unfold f_list at g
  split at g
  · cases g
    obtain ⟨r, u, rfl, h1, h2⟩ := vals1' v l
    obtain ⟨a, us, rfl, q1, q2⟩ := h1.lst R h2
    exact ⟨a, us, rfl, .inl (eK ▸ q1), fun q hq => post_lst R p q2 hq⟩
  · cases g
    obtain ⟨r, u, rfl, h1, h2⟩ := vals1' v l
    obtain ⟨a, us, rfl, q1, q2⟩ := h1.tup R h2
    exact ⟨a, us, rfl, .inr (eK ▸ gT q1), fun q hq => post_lst R p q2 hq⟩
  · cases g
theorem b_tuple : BOk X ad lt E (fun xs H Q => ∃ p ys, xs = [.ref p] ∧ ((SqL X.K H p ys ∧ ∀ l, H l = none → Q (.ref l) (upd H l (.tup ys))) ∨ (SqT X.K H p ys ∧ Q (.ref p) H))) f_tuple := by
  intro Φ δ σ H rs vs ds rv Q e1 e2 R v l g p
  have eK : Φ.R.K = X.K := by rw [e1]; rfl
  unfold f_tuple at g
  split at g
  · cases g
    obtain ⟨r, u, rfl, h1, h2⟩ := vals1' v l
    obtain ⟨a, us, rfl, q1, q2⟩ := h1.lst R h2
    exact ⟨a, us, rfl, .inl ⟨eK ▸ q1, fun q hq => post_tup R p q2 hq⟩⟩
  · cases g
    obtain ⟨r, u, rfl, h1, h2⟩ := vals1' v l
    obtain ⟨a, us, rfl, q1, q2⟩ := h1.tup R h2
    exact ⟨a, us, rfl, .inr ⟨eK ▸ gT q1, post_im R p (Rep.tup_iff.mpr ⟨a, us, rfl, q1, q2⟩)⟩⟩
  · cases g
theorem b_sum : BOk X ad lt E (rSum X.K) f_sum := by
  intro Φ δ σ H rs vs ds rv Q e1 e2 R v l g p
  have eK : Φ.R.K = X.K := by rw [e1]; rfl
  unfold f_sum at g
  split at g
  · rw [Option.map_eq_some_iff] at g
    obtain ⟨ns, e, rfl⟩ := g
    obtain ⟨r, u, rfl, h1, h2⟩ := vals1' v l
    obtain ⟨a, us, rfl, q1, q2⟩ := h1.lst R h2
    rw [ints_reps e q2] at q1
    exact ⟨a, ns, rfl, eK ▸ q1, post_sc R p rfl⟩
  · cases g
theorem b_any : BOk X ad lt E (rAny X.K) f_any := by
  intro Φ δ σ H rs vs ds rv Q e1 e2 R v l g p
  have eK : Φ.R.K = X.K := by rw [e1]; rfl
  unfold f_any at g
  split at g
  · rw [Option.map_eq_some_iff] at g
    obtain ⟨ns, e, rfl⟩ := g
    obtain ⟨r, u, rfl, h1, h2⟩ := vals1' v l
    obtain ⟨a, us, rfl, q1, q2⟩ := h1.lst R h2
    rw [bls_reps e q2] at q1
    exact ⟨a, ns, rfl, eK ▸ q1, post_sc R p rfl⟩
  · cases g
theorem b_all : BOk X ad lt E (rAll X.K) f_all := by
  intro Φ δ σ H rs vs ds rv Q e1 e2 R v l g p
  have eK : Φ.R.K = X.K := by rw [e1]; rfl
  unfold f_all at g
  split at g
  · rw [Option.map_eq_some_iff] at g
    obtain ⟨ns, e, rfl⟩ := g
    obtain ⟨r, u, rfl, h1, h2⟩ := vals1' v l
    obtain ⟨a, us, rfl, q1, q2⟩ := h1.lst R h2
    rw [bls_reps e q2] at q1
    exact ⟨a, ns, rfl, eK ▸ q1, post_sc R p rfl⟩
  · cases g
theorem foldl_max_mem : ∀ (ns : List Int) (n : Int), ns.foldl max n ∈ n :: ns ∧ ∀ y ∈ n :: ns, y ≤ ns.foldl max n
  | [], n => by simp
  | k :: ns, n => by
    obtain ⟨h1, h2⟩ := foldl_max_mem ns (max n k)
    simp only [List.foldl_cons]
    refine ⟨?_, ?_⟩
    · rcases List.mem_cons.mp h1 with h | h
      · rw [h]
        rcases Int.le_total n k with z | z
        · rw [Int.max_eq_right z]; exact List.mem_cons_of_mem _ List.mem_cons_self
        · rw [Int.max_eq_left z]; exact List.mem_cons_self
      · exact List.mem_cons_of_mem _ (List.mem_cons_of_mem _ h)
    · intro y hy
      have hm := h2 (max n k) List.mem_cons_self
      rcases List.mem_cons.mp hy with h | h
      · subst h; exact Int.le_trans (Int.le_max_left ..) hm
      · rcases List.mem_cons.mp h with h | h
        · subst h; exact Int.le_trans (Int.le_max_right ..) hm
        · exact h2 y (List.mem_cons_of_mem _ h)
theorem foldl_min_mem : ∀ (ns : List Int) (n : Int), ns.foldl min n ∈ n :: ns ∧ ∀ y ∈ n :: ns, ns.foldl min n ≤ y
  | [], n => by simp
  | k :: ns, n => by
    obtain ⟨h1, h2⟩ := foldl_min_mem ns (min n k)
    simp only [List.foldl_cons]
    refine ⟨?_, ?_⟩
    · rcases List.mem_cons.mp h1 with h | h
      · rw [h]
        rcases Int.le_total n k with z | z
        · rw [Int.min_eq_left z]; exact List.mem_cons_self
        · rw [Int.min_eq_right z]; exact List.mem_cons_of_mem _ List.mem_cons_self
      · exact List.mem_cons_of_mem _ (List.mem_cons_of_mem _ h)
    · intro y hy
      have hm := h2 (min n k) List.mem_cons_self
      rcases List.mem_cons.mp hy with h | h
      · subst h; exact Int.le_trans hm (Int.min_le_left ..)
      · rcases List.mem_cons.mp h with h | h
        · subst h; exact Int.le_trans hm (Int.min_le_right ..)
        · exact h2 y (List.mem_cons_of_mem _ h)
theorem b_maxL : BOk X ad lt E (rMax X.K) f_maxL := by
  intro Φ δ σ H rs vs ds rv Q e1 e2 R v l g p
  have eK : Φ.R.K = X.K := by rw [e1]; rfl
  unfold f_maxL at g
  split at g
  · rw [Option.map_eq_some_iff] at g
    obtain ⟨m, e, rfl⟩ := g
    rw [Option.bind_eq_some_iff] at e
    obtain ⟨ns, e, em⟩ := e
    obtain ⟨r, u, rfl, h1, h2⟩ := vals1' v l
    obtain ⟨a, us, rfl, q1, q2⟩ := h1.lst R h2
    rw [ints_reps e q2] at q1
    cases ns with
    | nil => cases em
    | cons n ns =>
      cases em
      obtain ⟨z1, z2⟩ := foldl_max_mem ns n
      refine ⟨a, n :: ns, rfl, eK ▸ q1, by simp, fun m' hm hy => ?_⟩
      have : m' = ns.foldl max n := Int.le_antisymm (z2 m' hm) (hy _ z1)
      rw [this]
      exact post_sc R p rfl
  · cases g
theorem b_minL : BOk X ad lt E (rMin X.K) f_minL := by
  intro Φ δ σ H rs vs ds rv Q e1 e2 R v l g p
  have eK : Φ.R.K = X.K := by rw [e1]; rfl
  unfold f_minL at g
  split at g
  · rw [Option.map_eq_some_iff] at g
    obtain ⟨m, e, rfl⟩ := g
    rw [Option.bind_eq_some_iff] at e
    obtain ⟨ns, e, em⟩ := e
    obtain ⟨r, u, rfl, h1, h2⟩ := vals1' v l
    obtain ⟨a, us, rfl, q1, q2⟩ := h1.lst R h2
    rw [ints_reps e q2] at q1
    cases ns with
    | nil => cases em
    | cons n ns =>
      cases em
      obtain ⟨z1, z2⟩ := foldl_min_mem ns n
      refine ⟨a, n :: ns, rfl, eK ▸ q1, by simp, fun m' hm hy => ?_⟩
      have : m' = ns.foldl min n := Int.le_antisymm (hy _ z1) (z2 m' hm)
      rw [this]
      exact post_sc R p rfl
  · cases g
end
end EL

set_option Elab.async false
set_option linter.all false
set_option maxRecDepth 100000
set_option maxHeartbeats 1000000
/-! the order of data -/
namespace EL
open PySem PySem.Spec PyProof.Rows L2

mutual
theorem deq_iff : ∀ (a b : D), ordD a = true → ordD b = true → (deq a b = true ↔ a = b)
  | .int i, b, _, hb => by
    cases b <;> simp only [ordD] at hb <;> first | (cases hb; done) | skip
    · simp [deq]
    · simp [deq]
    · simp [deq]
  | .str x, b, _, hb => by
    cases b <;> simp only [ordD] at hb <;> first | (cases hb; done) | skip
    · simp [deq]
    · simp [deq]
    · simp [deq]
  | .tup xs, b, ha, hb => by
    cases b <;> simp only [ordD] at hb <;> first | (cases hb; done) | skip
    · simp [deq]
    · simp [deq]
    · rename_i ys
      simp only [ordD] at ha
      simp only [deq, D.tup.injEq]
      exact deqs_iff xs ys ha hb
  | .non, _, ha, _ => by simp only [ordD] at ha; cases ha
  | .bl _, _, ha, _ => by simp only [ordD] at ha; cases ha
  | .obj _, _, ha, _ => by simp only [ordD] at ha; cases ha
  | .ty _, _, ha, _ => by simp only [ordD] at ha; cases ha
  | .lst _, _, ha, _ => by simp only [ordD] at ha; cases ha
  | .dic _ _, _, ha, _ => by simp only [ordD] at ha; cases ha
  | .ins _ _, _, ha, _ => by simp only [ordD] at ha; cases ha
theorem deqs_iff : ∀ (a b : List D), ordDs a = true → ordDs b = true → (deqs a b = true ↔ a = b)
  | [], [], _, _ => by simp [deqs]
  | [], _ :: _, _, _ => by simp [deqs]
  | _ :: _, [], _, _ => by simp [deqs]
  | x :: xs, y :: ys, ha, hb => by
    simp only [ordDs, Bool.and_eq_true] at ha hb
    simp only [deqs, Bool.and_eq_true, List.cons.injEq]
    rw [deq_iff x y ha.1 hb.1, deqs_iff xs ys ha.2 hb.2]
end
theorem deq_no {a b : D} (ha : ordD a = true) (hb : ordD b = true) (h : a ≠ b) : deq a b = false := by
  cases e : deq a b with
  | false => rfl
  | true => exact absurd ((deq_iff a b ha hb).mp e) h
theorem deq_self {a : D} (ha : ordD a = true) : deq a a = true := (deq_iff a a ha ha).mpr rfl
/-- dlt is the order, where it tells -/
theorem dlt_dec : ∀ (a b : D) (r : Bool), dlt a b = some r → (∀ xs ys, a = .tup xs → b = .tup ys → dlts xs ys = some r → r = ltDs xs ys) → r = ltD a b := by
  intro a b r h k
  cases a <;> cases b <;> simp only [dlt] at h <;> first | (cases h; done) | skip
  · cases h; simp only [ltD]
  · cases h; simp only [ltD]
  · rename_i xs ys
    simp only [ltD]
    exact k xs ys rfl rfl h
mutual
theorem dlt_lt : ∀ (a b : D) (r : Bool), dlt a b = some r → r = ltD a b
  | .tup xs, b, r, h => by
    cases b <;> simp only [dlt] at h <;> first | (cases h; done) | skip
    simp only [ltD]
    exact dlts_lt xs _ r h
  | .int i, b, r, h => by
    cases b <;> simp only [dlt] at h <;> first | (cases h; done) | skip
    cases h; simp only [ltD]
  | .str i, b, r, h => by
    cases b <;> simp only [dlt] at h <;> first | (cases h; done) | skip
    cases h; simp only [ltD]
  | .non, b, r, h => by cases b <;> simp only [dlt] at h <;> cases h
  | .bl _, b, r, h => by cases b <;> simp only [dlt] at h <;> cases h
  | .obj _, b, r, h => by cases b <;> simp only [dlt] at h <;> cases h
  | .ty _, b, r, h => by cases b <;> simp only [dlt] at h <;> cases h
  | .lst _, b, r, h => by cases b <;> simp only [dlt] at h <;> cases h
  | .dic _ _, b, r, h => by cases b <;> simp only [dlt] at h <;> cases h
  | .ins _ _, b, r, h => by cases b <;> simp only [dlt] at h <;> cases h
theorem dlts_lt : ∀ (a b : List D) (r : Bool), dlts a b = some r → r = ltDs a b
  | [], [], r, h => by simp only [dlts] at h; cases h; simp only [ltDs]
  | [], _ :: _, r, h => by simp only [dlts] at h; cases h; simp only [ltDs]
  | _ :: _, [], r, h => by simp only [dlts] at h; cases h; simp only [ltDs]
  | x :: xs, y :: ys, r, h => by
    simp only [dlts] at h
    simp only [ltDs]
    cases hd : deq x y with
    | true =>
      rw [hd] at h
      exact dlts_lt xs ys r h
    | false =>
      rw [hd] at h
      exact dlt_lt x y r h
end
mutual
theorem ltD_irr : ∀ a : D, ordD a = true → ltD a a = false
  | .int i, _ => by simp [ltD]
  | .str x, _ => by simp [ltD, List.lt_irrefl]
  | .tup xs, h => by simp only [ordD] at h; simp only [ltD]; exact ltDs_irr xs h
  | .non, h => by simp only [ordD] at h; cases h
  | .bl _, h => by simp only [ordD] at h; cases h
  | .obj _, h => by simp only [ordD] at h; cases h
  | .ty _, h => by simp only [ordD] at h; cases h
  | .lst _, h => by simp only [ordD] at h; cases h
  | .dic _ _, h => by simp only [ordD] at h; cases h
  | .ins _ _, h => by simp only [ordD] at h; cases h
theorem ltDs_irr : ∀ a : List D, ordDs a = true → ltDs a a = false
  | [], _ => by simp only [ltDs]
  | x :: xs, h => by
    simp only [ordDs, Bool.and_eq_true] at h
    simp only [ltDs, deq_self h.1, if_true]
    exact ltDs_irr xs h.2
end
mutual
theorem ltD_tr : ∀ a b c : D, ordD a = true → ordD b = true → ordD c = true → ltD a b = true → ltD b c = true → ltD a c = true
  | .int i, b, c, _, hb, hc, h1, h2 => by
    cases b <;> simp only [ordD] at hb <;> first | (cases hb; done) | skip
    all_goals cases c <;> simp only [ordD] at hc <;> first | (cases hc; done) | skip
    all_goals first
      | (simp [ltD, rankD] at h1; done)
      | (simp [ltD, rankD] at h2; done)
      | (simp [ltD, rankD]; done)
      | (simp only [ltD, decide_eq_true_eq] at h1 h2 ⊢; omega)
  | .str x, b, c, _, hb, hc, h1, h2 => by
    cases b <;> simp only [ordD] at hb <;> first | (cases hb; done) | skip
    all_goals cases c <;> simp only [ordD] at hc <;> first | (cases hc; done) | skip
    all_goals first
      | (simp only [ltD, decide_eq_true_eq] at h1 h2 ⊢; exact List.lt_trans h1 h2)
      | (simp [ltD, rankD] at h1; done)
      | (simp [ltD, rankD] at h2; done)
      | (simp [ltD, rankD]; done)
  | .tup xs, b, c, ha, hb, hc, h1, h2 => by
    cases b <;> simp only [ordD] at hb <;> first | (cases hb; done) | skip
    all_goals cases c <;> simp only [ordD] at hc <;> first | (cases hc; done) | skip
    case tup.tup ys zs =>
      simp only [ordD] at ha
      simp only [ltD] at h1 h2 ⊢
      exact ltDs_tr xs ys zs ha hb hc h1 h2
    all_goals first
      | (simp [ltD, rankD] at h1; done)
      | (simp [ltD, rankD] at h2; done)
      | (simp [ltD, rankD]; done)
  | .non, _, _, h, _, _, _, _ => by simp only [ordD] at h; cases h
  | .bl _, _, _, h, _, _, _, _ => by simp only [ordD] at h; cases h
  | .obj _, _, _, h, _, _, _, _ => by simp only [ordD] at h; cases h
  | .ty _, _, _, h, _, _, _, _ => by simp only [ordD] at h; cases h
  | .lst _, _, _, h, _, _, _, _ => by simp only [ordD] at h; cases h
  | .dic _ _, _, _, h, _, _, _, _ => by simp only [ordD] at h; cases h
  | .ins _ _, _, _, h, _, _, _, _ => by simp only [ordD] at h; cases h
theorem ltDs_tr : ∀ a b c : List D, ordDs a = true → ordDs b = true → ordDs c = true → ltDs a b = true → ltDs b c = true → ltDs a c = true
  | [], [], _, _, _, _, h, _ => by simp only [ltDs] at h; cases h
  | [], _ :: _, [], _, _, _, _, h => by simp only [ltDs] at h; cases h
  | [], _ :: _, _ :: _, _, _, _, _, _ => by simp only [ltDs]
  | _ :: _, [], _, _, _, _, h, _ => by simp only [ltDs] at h; cases h
  | _ :: _, _ :: _, [], _, _, _, _, h => by simp only [ltDs] at h; cases h
  | x :: xs, y :: ys, z :: zs, ha, hb, hc, h1, h2 => by
    simp only [ordDs, Bool.and_eq_true] at ha hb hc
    simp only [ltDs] at h1 h2 ⊢
    by_cases e1 : x = y
    · subst e1
      rw [deq_self ha.1] at h1
      simp only [if_true] at h1
      by_cases e2 : x = z
      · subst e2
        rw [deq_self ha.1] at h2 ⊢
        simp only [if_true] at h2 ⊢
        exact ltDs_tr xs ys zs ha.2 hb.2 hc.2 h1 h2
      · rw [deq_no ha.1 hc.1 e2] at h2 ⊢
        exact h2
    · rw [deq_no ha.1 hb.1 e1] at h1
      simp only [Bool.false_eq_true, if_false] at h1
      by_cases e2 : y = z
      · subst e2
        rw [deq_no ha.1 hb.1 e1]
        simp only [Bool.false_eq_true, if_false]
        exact h1
      · rw [deq_no hb.1 hc.1 e2] at h2
        simp only [Bool.false_eq_true, if_false] at h2
        have h3 := ltD_tr x y z ha.1 hb.1 hc.1 h1 h2
        have e3 : x ≠ z := fun e => by
          subst e
          have := ltD_irr x ha.1
          rw [this] at h3; cases h3
        rw [deq_no ha.1 hc.1 e3]
        simp only [Bool.false_eq_true, if_false]
        exact h3
end
theorem str_tri {x y : Str} (h : x ≠ y) : x.cps.toList < y.cps.toList ∨ y.cps.toList < x.cps.toList := by
  by_cases h1 : x.cps.toList < y.cps.toList
  · exact .inl h1
  · by_cases h2 : y.cps.toList < x.cps.toList
    · exact .inr h2
    · exfalso
      apply h
      have e := List.le_antisymm (List.not_lt.mp h2) (List.not_lt.mp h1)
      cases x; cases y
      simp only at e
      rw [Array.toList_inj.mp e]
mutual
theorem ltD_tot : ∀ a b : D, ordD a = true → ordD b = true → a ≠ b → ltD a b = true ∨ ltD b a = true
  | .int i, b, _, hb, h => by
    cases b <;> simp only [ordD] at hb <;> first | (cases hb; done) | skip
    · simp only [ltD, decide_eq_true_eq]
      have : i ≠ _ := fun e => h (by rw [e])
      omega
    · simp [ltD, rankD]
    · simp [ltD, rankD]
  | .str x, b, _, hb, h => by
    cases b <;> simp only [ordD] at hb <;> first | (cases hb; done) | skip
    · simp [ltD, rankD]
    · simp only [ltD, decide_eq_true_eq]
      exact str_tri fun e => h (by rw [e])
    · simp [ltD, rankD]
  | .tup xs, b, ha, hb, h => by
    cases b <;> simp only [ordD] at hb <;> first | (cases hb; done) | skip
    · simp [ltD, rankD]
    · simp [ltD, rankD]
    · rename_i ys
      simp only [ordD] at ha
      simp only [ltD]
      exact ltDs_tot xs ys ha hb fun e => h (by rw [e])
  | .non, _, h, _, _ => by simp only [ordD] at h; cases h
  | .bl _, _, h, _, _ => by simp only [ordD] at h; cases h
  | .obj _, _, h, _, _ => by simp only [ordD] at h; cases h
  | .ty _, _, h, _, _ => by simp only [ordD] at h; cases h
  | .lst _, _, h, _, _ => by simp only [ordD] at h; cases h
  | .dic _ _, _, h, _, _ => by simp only [ordD] at h; cases h
  | .ins _ _, _, h, _, _ => by simp only [ordD] at h; cases h
theorem ltDs_tot : ∀ a b : List D, ordDs a = true → ordDs b = true → a ≠ b → ltDs a b = true ∨ ltDs b a = true
  | [], [], _, _, h => absurd rfl h
  | [], _ :: _, _, _, _ => by simp [ltDs]
  | _ :: _, [], _, _, _ => by simp [ltDs]
  | x :: xs, y :: ys, ha, hb, h => by
    simp only [ordDs, Bool.and_eq_true] at ha hb
    simp only [ltDs]
    by_cases e : x = y
    · subst e
      rw [deq_self ha.1]
      simp only [if_true]
      exact ltDs_tot xs ys ha.2 hb.2 fun q => h (by rw [q])
    · rw [deq_no ha.1 hb.1 e, deq_no hb.1 ha.1 (Ne.symm e)]
      simp only [Bool.false_eq_true, if_false]
      exact ltD_tot x y ha.1 hb.1 e
end
/-! ### dsort -/
theorem ltD_asym {a b : D} (ha : ordD a = true) (hb : ordD b = true) (h : ltD a b = true) : ltD b a = false := by
  cases e : ltD b a with
  | false => rfl
  | true =>
    have := ltD_tr a b a ha hb ha h e
    rw [ltD_irr a ha] at this; cases this
theorem ltD_ntr {a b c : D} (ha : ordD a = true) (hb : ordD b = true) (hc : ordD c = true) (h1 : ltD b a = false) (h2 : ltD c b = false) : ltD c a = false := by
  cases e : ltD c a with
  | false => rfl
  | true =>
    by_cases e1 : a = b
    · subst e1
      rw [e] at h2; cases h2
    · rcases ltD_tot a b ha hb e1 with q | q
      · have := ltD_tr c a b hc ha hb e q
        rw [h2] at this; cases this
      · rw [h1] at q; cases q
abbrev Sd (l : List D) : Prop := l.Pairwise fun x y => ltD y x = false
theorem dins_perm (x : D) : ∀ l : List D, (dins x l).Perm (x :: l)
  | [] => by simp [dins]
  | y :: ys => by
    simp only [dins]
    split
    · exact ((dins_perm x ys).cons y).trans (List.Perm.swap x y ys)
    · exact List.Perm.refl _
theorem dsort_perm : ∀ l : List D, (dsort l).Perm l
  | [] => List.Perm.refl _
  | x :: xs => (dins_perm x (dsort xs)).trans ((dsort_perm xs).cons x)
theorem dins_sd {x : D} (hx : ordD x = true) : ∀ l : List D, (∀ y ∈ l, ordD y = true) → Sd l → Sd (dins x l)
  | [], _, _ => List.pairwise_singleton _ _
  | y :: ys, ho, hs => by
    simp only [dins]
    have hy := ho y List.mem_cons_self
    obtain ⟨h1, h2⟩ := List.pairwise_cons.mp hs
    split
    · rename_i hlt
      refine List.pairwise_cons.mpr ⟨fun z hz => ?_, dins_sd hx ys (fun z hz => ho z (List.mem_cons_of_mem _ hz)) h2⟩
      rcases List.mem_cons.mp ((dins_perm x ys).mem_iff.mp hz) with e | hz
      · rw [e]
        exact ltD_asym hy hx hlt
      · exact h1 z hz
    · rename_i hn
      have hn : ltD y x = false := by simpa using hn
      refine List.pairwise_cons.mpr ⟨fun z hz => ?_, hs⟩
      rcases List.mem_cons.mp hz with e | hz
      · rw [e]; exact hn
      · exact ltD_ntr hx hy (ho z (List.mem_cons_of_mem _ hz)) hn (h1 z hz)
theorem dsort_sd : ∀ l : List D, (∀ y ∈ l, ordD y = true) → Sd (dsort l)
  | [], _ => List.Pairwise.nil
  | x :: xs, h => dins_sd (h x List.mem_cons_self) _ (fun y hy => h y (List.mem_cons_of_mem _ ((dsort_perm xs).mem_iff.mp hy))) (dsort_sd xs fun y hy => h y (List.mem_cons_of_mem _ hy))
/-- one list alone is the sorted one -/
theorem sd_unique : ∀ {l m : List D}, (∀ y ∈ l, ordD y = true) → Sd l → Sd m → l.Perm m → l = m
  | [], m, _, _, _, p => by rw [List.nil_perm.mp p]
  | a :: t, [], _, _, _, p => absurd (List.perm_nil.mp p) (by simp)
  | a :: t, b :: u, ho, hl, hm, p => by
    obtain ⟨h1, h2⟩ := List.pairwise_cons.mp hl
    obtain ⟨k1, k2⟩ := List.pairwise_cons.mp hm
    have ha := ho a List.mem_cons_self
    have hb : ordD b = true := ho b (p.mem_iff.mpr List.mem_cons_self)
    have e : a = b := by
      apply Classical.byContradiction
      intro n
      have m1 : a ∈ u := by
        rcases List.mem_cons.mp (p.mem_iff.mp List.mem_cons_self) with q | q
        · exact absurd q n
        · exact q
      have m2 : b ∈ t := by
        rcases List.mem_cons.mp (p.mem_iff.mpr List.mem_cons_self) with q | q
        · exact absurd q.symm n
        · exact q
      rcases ltD_tot a b ha hb n with q | q
      · rw [k1 a m1] at q; cases q
      · rw [h1 b m2] at q; cases q
    subst e
    rw [sd_unique (fun y hy => ho y (List.mem_cons_of_mem _ hy)) h2 k2 (List.Perm.cons_inv p)]
end EL

set_option Elab.async false
set_option linter.all false
set_option maxRecDepth 100000
set_option maxHeartbeats 1000000
/-! sorted(..) of data -/
namespace EL
open PySem PySem.Spec PyProof.Rows L2 Srt SrtO

section
variable {X : Cx} {ad : Nat → Addr} {pins : List (Addr × Obj)} {σ : L2.St} {H : Hp} {s : Shared}
mutual
theorem Rep.inj (I : L2.Inv X pins σ H s) : ∀ (a b : D) (v : V), ordD a = true → ordD b = true → Rep (rc X ad) H a v → Rep (rc X ad) H b v → a = b
  | .int i, b, v, _, hb, ra, rb => by
    rw [Rep.int_iff] at ra
    subst ra
    cases b <;> simp only [ordD] at hb <;> first | (cases hb; done) | skip
    · rw [Rep.int_iff] at rb; cases rb; rfl
    · rw [Rep.str_iff] at rb; cases rb
    · rw [Rep.tup_iff] at rb; obtain ⟨_, _, e, _⟩ := rb; cases e
  | .str i, b, v, _, hb, ra, rb => by
    rw [Rep.str_iff] at ra
    subst ra
    cases b <;> simp only [ordD] at hb <;> first | (cases hb; done) | skip
    · rw [Rep.int_iff] at rb; cases rb
    · rw [Rep.str_iff] at rb; cases rb; rfl
    · rw [Rep.tup_iff] at rb; obtain ⟨_, _, e, _⟩ := rb; cases e
  | .tup xs, b, v, ha, hb, ra, rb => by
    rw [Rep.tup_iff] at ra
    obtain ⟨p, vs, rfl, s1, r1⟩ := ra
    cases b <;> simp only [ordD] at hb <;> first | (cases hb; done) | skip
    · rw [Rep.int_iff] at rb; cases rb
    · rw [Rep.str_iff] at rb; cases rb
    · rename_i ys
      rw [Rep.tup_iff] at rb
      obtain ⟨p', us, e, s2, r2⟩ := rb
      cases e
      have ev := I.tuple_inj s1 s2
      subst ev
      simp only [ordD] at ha
      rw [Reps.inj I xs ys vs ha hb r1 r2]
  | .non, _, _, h, _, _, _ => by simp only [ordD] at h; cases h
  | .bl _, _, _, h, _, _, _ => by simp only [ordD] at h; cases h
  | .obj _, _, _, h, _, _, _ => by simp only [ordD] at h; cases h
  | .ty _, _, _, h, _, _, _ => by simp only [ordD] at h; cases h
  | .lst _, _, _, h, _, _, _ => by simp only [ordD] at h; cases h
  | .dic _ _, _, _, h, _, _, _ => by simp only [ordD] at h; cases h
  | .ins _ _, _, _, h, _, _, _ => by simp only [ordD] at h; cases h
theorem Reps.inj (I : L2.Inv X pins σ H s) : ∀ (a b : List D) (v : List V), ordDs a = true → ordDs b = true → Reps (rc X ad) H a v → Reps (rc X ad) H b v → a = b
  | [], b, v, _, _, ra, rb => by
    cases ra.inv0
    cases b with
    | nil => rfl
    | cons y ys => obtain ⟨_, _, e, _⟩ := rb.inv; cases e
  | x :: xs, b, v, ha, hb, ra, rb => by
    obtain ⟨u, us, rfl, r1, r2⟩ := ra.inv
    cases b with
    | nil => cases rb.inv0
    | cons y ys =>
      obtain ⟨u', us', e, q1, q2⟩ := rb.inv
      cases e
      simp only [ordDs, Bool.and_eq_true] at ha hb
      rw [Rep.inj I x y u ha.1 hb.1 r1 q1, Reps.inj I xs ys us ha.2 hb.2 r2 q2]
end
open Classical in
noncomputable def dV (R : RC) (H : Hp) (u : Value) : D := if h : ∃ d : D, ordD d = true ∧ ∃ v, RelV v u ∧ Rep R H d v then h.choose else .int 0
theorem dV_ord (R : RC) (H : Hp) (u : Value) : ordD (dV R H u) = true := by
  unfold dV
  split
  · rename_i h
    exact h.choose_spec.1
  · simp only [ordD]
theorem dV_eq (I : L2.Inv X pins σ H s) {d : D} {v : V} {u : Value} (hd : ordD d = true) (rv : RelV v u) (rp : Rep (rc X ad) H d v) : dV (rc X ad) H u = d := by
  have h : ∃ d : D, ordD d = true ∧ ∃ v, RelV v u ∧ Rep (rc X ad) H d v := ⟨d, hd, v, rv, rp⟩
  unfold dV
  rw [dif_pos h]
  obtain ⟨v', rv', rp'⟩ := h.choose_spec.2
  rw [rv'.inj rv] at rp'
  exact Rep.inj I _ _ _ h.choose_spec.1 hd rp' rp
noncomputable def ltV (R : RC) (H : Hp) (u w : Value) : Bool := ltD (dV R H u) (dV R H w)
theorem swo_V (R : RC) (H : Hp) : Swo (ltV R H) :=
  ⟨fun x y h => ltD_asym (dV_ord ..) (dV_ord ..) h, fun x y z h1 h2 => ltD_ntr (dV_ord ..) (dV_ord ..) (dV_ord ..) h1 h2⟩
theorem mem_reps {R : RC} {G : Hp} : ∀ {ds : List D} {us : List V} {vs : List Value} {u : Value}, Vals us vs → Reps R G ds us → u ∈ vs → ∃ (j : Nat) (d : D) (v : V), ds[j]? = some d ∧ us[j]? = some v ∧ vs[j]? = some u ∧ RelV v u ∧ Rep R G d v
  | [], _, _, _, hv, hr, hu => by cases hr.inv0; cases hv; cases hu
  | d :: ds, _, _, u, hv, hr, hu => by
    obtain ⟨v, r, rfl, h1, h2⟩ := hr.inv
    cases hv with
    | cons q1 q2 =>
      rcases List.mem_cons.mp hu with e | hu
      · subst e
        exact ⟨0, d, v, rfl, rfl, rfl, q1, h1⟩
      · obtain ⟨j, d', v', e1, e2, e3, e4, e5⟩ := mem_reps q2 h2 hu
        exact ⟨j + 1, d', v', by simpa using e1, by simpa using e2, by simpa using e3, e4, e5⟩
theorem mem_of_get {α : Type} {l : List α} {i : Nat} {x : α} (h : l[i]? = some x) : x ∈ l := List.mem_of_getElem? h
theorem katlex (I : L2.Inv X pins σ H s) {A : Around} {b : Bool} : ∀ (xs ys : List D) (vs us : List V) (its its2 : List Value) (i : Nat) (r : Bool), layDs xs = true → layDs ys = true → Reps (rc X ad) H xs vs → Reps (rc X ad) H ys us → Vals vs its → Vals us its2 →
    dlts xs ys = some r → A.units + depDs xs < cLine → (b = true → i = 0 → ∃ n m xs' ys', xs = .int n :: xs' ∧ ys = .int m :: ys') →
    PySem.W.KatLex X.prog X.w A b (decide (its.length < its2.length)) (fun r' s' => s' = s ∧ r' = r) (its.zip its2) i s
  | [], ys, vs, us, its, its2, i, r, la, lb, ra, rb, rv, ru, e, hu, hb => by
    cases ra.inv0
    cases rv
    rw [List.zip_nil_left]
    refine PySem.W.kat_nil ⟨rfl, ?_⟩
    cases ys with
    | nil =>
      cases rb.inv0
      cases ru
      simp only [dlts] at e
      cases e
      rfl
    | cons y ys =>
      obtain ⟨_, _, rfl, _, _⟩ := rb.inv
      cases ru
      simp only [dlts] at e
      cases e
      simp
  | x :: xs, [], vs, us, its, its2, i, r, la, lb, ra, rb, rv, ru, e, hu, hb => by
    cases rb.inv0
    cases ru
    rw [List.zip_nil_right]
    refine PySem.W.kat_nil ⟨rfl, ?_⟩
    simp only [dlts] at e
    cases e
    simp
  | x :: xs, y :: ys, vs, us, its, its2, i, r, la, lb, ra, rb, rv, ru, e, hu, hb => by
    obtain ⟨a, vs', rfl, a1, a2⟩ := ra.inv
    obtain ⟨c, us', rfl, b1, b2⟩ := rb.inv
    simp only [layDs, Bool.and_eq_true] at la lb
    simp only [depDs] at hu
    have hm1 := Nat.le_max_left (depD x) (depDs xs)
    have hm2 := Nat.le_max_right (depD x) (depDs xs)
    cases rv with
    | @cons _ p _ its' p1 p2 =>
      cases ru with
      | @cons _ q _ its2' q1 q2 =>
        have he := eqAt_data I (A := A) la.1 lb.1 a1 b1 p1 q1 (by omega)
        simp only [dlts] at e
        rw [List.zip_cons_cons]
        refine PySem.W.kat_cons (he X.prog X.w _ _ ?_)
        have hlen : decide ((p :: its').length < (q :: its2').length) = decide (its'.length < its2'.length) := by simp
        rw [hlen]
        cases hd : deq x y with
        | true =>
          rw [hd] at e
          exact PySem.W.kat_yes (katlex I xs ys _ _ _ _ (i + 1) r la.2 lb.2 a2 b2 p2 q2 e (by omega) (fun _ h => absurd h (by simp)))
        | false =>
          rw [hd] at e
          refine PySem.W.kat_no ?_
          have e : dlt x y = some r := e
          cases hbi : (b && i == 0) with
          | true =>
            rw [Bool.and_eq_true] at hbi
            obtain ⟨n, m, xs', ys', ex, ey⟩ := hb hbi.1 (by simpa using hbi.2)
            cases ex
            cases ey
            rw [Rep.int_iff] at a1 b1
            subst a1 b1
            obtain ⟨t, rfl⟩ := p1
            obtain ⟨t', rfl⟩ := q1
            simp only [dlt] at e
            cases e
            exact oneLt_int ⟨rfl, rfl⟩
          | false =>
            refine PySem.W.kat_one _ _ ?_
            exact lt_data I x y A a c p q r la.1 lb.1 a1 b1 p1 q1 e (by omega) X.prog X.w _ _ (show PySem.W.BoolBack _ (.bool r) s from ⟨rfl, rfl⟩)
end
/-- the first items of a row of tuples -/
theorem firsts_k {X : Cx} {ad : Nat → Addr} {pins : List (Addr × Obj)} {σ : L2.St} {H : Hp} {s : Shared} (I : L2.Inv X pins σ H s) {k : Nat} (hk : k = 2 ∨ k = 4) : ∀ {ds : List D} {us : List V} {vs : List Value}, (∀ d ∈ ds, kindD d = some k) → Reps (rc X ad) H ds us → Vals us vs →
    ∃ fs, PySem.W.KatTups s.heap vs fs ∧ fs.length = vs.length ∧ ∀ f ∈ fs, if k = 2 then ∃ i t, f = Value.int i t else ∃ t o, f = Value.ref t ∧ s.heap.get? t = some o ∧ o.cls = .type "tuple"
  | [], _, _, _, hr, hv => by
    cases hr.inv0
    cases hv
    exact ⟨[], .nil, rfl, fun f hf => by cases hf⟩
  | d :: ds, _, _, hK, hr, hv => by
    obtain ⟨v, r, rfl, h1, h2⟩ := hr.inv
    cases hv with
    | @cons _ u _ vs' q1 q2 =>
      obtain ⟨fs, i1, i2, i3⟩ := firsts_k I hk (fun x hx => hK x (List.mem_cons_of_mem _ hx)) h2 q2
      have hd := hK d List.mem_cons_self
      have go : ∀ (x : D) (xs : List D), d = .tup (x :: xs) → (k = 2 → ∃ n, x = .int n) → (k = 4 → ∃ zs, x = .tup zs) → ∃ fs, PySem.W.KatTups s.heap (u :: vs') fs ∧ fs.length = (u :: vs').length ∧
          ∀ f ∈ fs, if k = 2 then ∃ i t, f = Value.int i t else ∃ t o, f = Value.ref t ∧ s.heap.get? t = some o ∧ o.cls = .type "tuple" := fun x xs e k2 k4 => by
        subst e
        rw [Rep.tup_iff] at h1
        obtain ⟨a, ws, rfl, sa, sr⟩ := h1
        cases q1
        obtain ⟨its, rv, ⟨o, ho, hc, n, hdt⟩, _⟩ := I.tuple sa
        obtain ⟨w, ws', rfl, w1, w2⟩ := sr.inv
        cases rv with
        | @cons _ f _ its' g1 g2 =>
          refine ⟨f :: fs, PySem.W.KatTups.cons ho hc hdt (by simp) i1, by rw [List.length_cons, List.length_cons, i2], fun f' hf => ?_⟩
          rcases List.mem_cons.mp hf with e | hf
          · subst e
            rcases hk with hk | hk
            · rw [if_pos hk]
              obtain ⟨n', rfl⟩ := k2 hk
              rw [Rep.int_iff] at w1
              subst w1
              obtain ⟨t, rfl⟩ := g1
              exact ⟨n', t, rfl⟩
            · rw [if_neg (by omega)]
              obtain ⟨zs, rfl⟩ := k4 hk
              rw [Rep.tup_iff] at w1
              obtain ⟨c, _, rfl, sc, _⟩ := w1
              cases g1
              obtain ⟨_, _, ⟨oc, hoc, hcc, _⟩, _⟩ := I.tuple sc
              exact ⟨c, oc, rfl, hoc, hcc⟩
          · exact i3 f' hf
      unfold kindD at hd
      split at hd
      · cases hd; omega
      · cases hd
        rename_i n xs
        exact go _ _ rfl (fun _ => ⟨n, rfl⟩) (fun z => absurd z (by decide))
      · cases hd
        rename_i zs xs
        exact go _ _ rfl (fun z => absurd z (by decide)) (fun _ => ⟨zs, rfl⟩)
      · cases hd
theorem kind0 {d : D} (h : kindD d = some 0) : ∃ i, d = .int i := by
  unfold kindD at h
  split at h
  · exact ⟨_, rfl⟩
  · cases h
  · cases h
  · cases h
theorem ints_of_kind {R : RC} {G : Hp} : ∀ {ds : List D} {us : List V} {vs : List Value}, (∀ d ∈ ds, kindD d = some 0) → Reps R G ds us → Vals us vs → ∃ ns, IntsAre vs ns
  | [], _, _, _, hr, hv => by
    cases hr.inv0
    cases hv
    exact ⟨[], .nil⟩
  | d :: ds, _, _, hK, hr, hv => by
    obtain ⟨v, r, rfl, h1, h2⟩ := hr.inv
    cases hv with
    | cons q1 q2 =>
      obtain ⟨ns, hi⟩ := ints_of_kind (fun x hx => hK x (List.mem_cons_of_mem _ hx)) h2 q2
      have hd := hK d List.mem_cons_self
      cases d with
      | int n =>
        rw [Rep.int_iff] at h1
        subst h1
        obtain ⟨t, rfl⟩ := q1
        exact ⟨n :: ns, .cons n t hi⟩
      | tup xs =>
        cases xs with
        | nil => cases hd
        | cons x xs => cases x <;> cases hd
      | _ => cases hd
section
variable {X : Cx} {ad : Nat → Addr} {pins : List (Addr × Obj)} {σ : L2.St} {H : Hp} {s : Shared}
theorem pairOk_ord {ds : List D} (h : pairOk ds = true) : ∀ d ∈ ds, ordD d = true ∧ eqOk d = true := by
  unfold pairOk at h
  rw [Bool.and_eq_true] at h
  intro d hd
  have := List.all_eq_true.mp h.1 d hd
  rwa [Bool.and_eq_true] at this
theorem pairOk_two {ds : List D} (h : pairOk ds = true) (h2 : 2 ≤ ds.length) : (∃ k, ∀ d ∈ ds, kindD d = some k) ∧ ∀ x ∈ ds, ∀ y ∈ ds, ∃ r, dlt x y = some r := by
  unfold pairOk at h
  rw [Bool.and_eq_true, Bool.or_eq_true] at h
  obtain ⟨_, h | h⟩ := h
  · have := of_decide_eq_true h
    omega
  · cases ds with
    | nil => simp at h2
    | cons d r =>
      simp only [Bool.and_eq_true] at h
      obtain ⟨⟨h3, h4⟩, h5⟩ := h
      obtain ⟨k, hk⟩ := Option.isSome_iff_exists.mp h3
      refine ⟨⟨k, fun x hx => ?_⟩, fun x hx y hy => ?_⟩
      · rcases List.mem_cons.mp hx with e | hx
        · rw [e]; exact hk
        · have := List.all_eq_true.mp h4 x hx
          rw [beq_iff_eq] at this
          rw [this]; exact hk
      · exact Option.isSome_iff_exists.mp (List.all_eq_true.mp (List.all_eq_true.mp h5 x hx) y hy)
theorem sortable_D (I : L2.Inv X pins σ H s) {A : Around} (hu : A.units + 70 < cLine) {ds : List D} {us : List V} {vs : List Value} (hr : Reps (rc X ad) H ds us) (hv : Vals us vs) (hp : pairOk ds = true) (h2 : 2 ≤ vs.length) {h₁ : Heap} {a : Addr} {tk : Nat}
    (kk : ∀ b o, s.heap.get? b = some o → b ≠ a ∧ h₁.get? b = some o) : SortableO X.prog X.w A { s with heap := h₁, toks := tk } a vs (ltV (rc X ad) H) := by
  intro h' keep
  have I' : L2.Inv X pins σ H { s with heap := h', toks := tk } := I.kept fun b o e => keep b o (kk b o e).1 (kk b o e).2
  have hl : ds.length = vs.length := by rw [hr.length, hv.length]
  obtain ⟨⟨k, hk⟩, hlt⟩ := pairOk_two hp (by omega)
  -- two items
  have two : ∀ p ∈ vs, ∀ q ∈ vs, ∃ (x y : D) (v w : V) (r : Bool), x ∈ ds ∧ y ∈ ds ∧ RelV v p ∧ RelV w q ∧ Rep (rc X ad) H x v ∧ Rep (rc X ad) H y w ∧ dlt x y = some r ∧ ltV (rc X ad) H p q = r := fun p hp' q hq => by
    obtain ⟨j, x, v, e1, e2, e3, e4, e5⟩ := mem_reps hv hr hp'
    obtain ⟨j', y, w, f1, f2, f3, f4, f5⟩ := mem_reps hv hr hq
    have mx := mem_of_get e1
    have my := mem_of_get f1
    obtain ⟨r, hr'⟩ := hlt x mx y my
    refine ⟨x, y, v, w, r, mx, my, e4, f4, e5, f5, hr', ?_⟩
    unfold ltV
    rw [dV_eq I (pairOk_ord hp x mx).1 e4 e5, dV_eq I (pairOk_ord hp y my).1 f4 f5]
    exact (dlt_lt x y r hr').symm
  have kinds : k = 0 ∨ k = 2 ∨ k = 4 := by
    obtain ⟨d, hd⟩ : ∃ d, d ∈ ds := by
      cases ds with
      | nil => simp at hl; omega
      | cons d r => exact ⟨d, List.mem_cons_self⟩
    have := hk d hd
    unfold kindD at this
    split at this <;> cases this <;> omega
  have tups : ∀ (b : Bool), (b = true → k = 2) → (k = 2 ∨ k = 4) → Cmp X.prog X.w A { s with heap := h', toks := tk } (tuples' b) (fun p => p.1 ∈ vs) (lt2 (ltV (rc X ad) H)) := fun b hb2 hk24 p q hm hm' => by
    obtain ⟨x, y, v, w, r, mx, my, rp, rq, rx, ry, hd, e⟩ := two _ hm _ hm'
    have isT : ∀ z ∈ ds, ∃ z1 zs, z = .tup (z1 :: zs) ∧ (k = 2 → ∃ n, z1 = .int n) := fun z hz => by
      have := hk z hz
      unfold kindD at this
      split at this
      · cases this; omega
      · exact ⟨_, _, rfl, fun _ => ⟨_, rfl⟩⟩
      · cases this
        exact ⟨_, _, rfl, fun e => absurd e (by decide)⟩
      · cases this
    obtain ⟨x1, xs, ex, kx⟩ := isT x mx
    obtain ⟨y1, ys, ey, ky⟩ := isT y my
    have ox := lay_of (pairOk_ord hp x mx).2
    have oy := lay_of (pairOk_ord hp y my).2
    have dx := dep60 (pairOk_ord hp x mx).2
    subst ex ey
    rw [Rep.tup_iff] at rx ry
    obtain ⟨pa, ws, rfl, s1, r1⟩ := rx
    obtain ⟨pb, zs, rfl, s2, r2⟩ := ry
    have rp : p.1 = .ref pa := rp
    have rq : q.1 = .ref pb := rq
    obtain ⟨its, v1, ⟨o1, ho1, hc1, n1, hd1⟩, _⟩ := I'.tuple s1
    obtain ⟨its2, v2, ⟨o2, ho2, hc2, n2, hd2⟩, _⟩ := I'.tuple s2
    show wpAny _ A (keyLt' (tuples' b) p.1 q.1) (fun r s' => s' = _ ∧ r = ltV (rc X ad) H p.1 q.1) _ _
    rw [e, rp, rq]
    simp only [layD] at ox oy
    simp only [depD] at dx
    simp only [dlt] at hd
    refine PySem.W.kat_lt ho1 hd1 ho2 hd2 ?_
    have := katlex I' (A := A) (b := b) _ _ ws zs its its2 0 r ox oy r1 r2 v1 v2 hd (by omega) (fun hb _ => by
      obtain ⟨n, rfl⟩ := kx (hb2 hb)
      obtain ⟨m, rfl⟩ := ky (hb2 hb)
      exact ⟨n, m, xs, ys, rfl, rfl⟩)
    simpa using this
  rcases kinds with rfl | rfl | rfl
  · obtain ⟨ns, hi⟩ := ints_of_kind hk hr hv
    refine ⟨oneType', fun Q E hq => ?_, fun p q hm hm' => ?_⟩
    · match vs, hi, h2 with
      | v1 :: v2 :: rest, hi, _ =>
        rw [keyKind_ints hi]
        exact wpAny_pure hq
      | [], _, h => exact absurd h (by decide)
      | [v], _, h => exact absurd h (by simp)
    · obtain ⟨x, y, v, w, r, mx, my, rp, rq, rx, ry, hd, e⟩ := two _ hm _ hm'
      obtain ⟨i, rfl⟩ := kind0 (hk x mx)
      obtain ⟨j, rfl⟩ := kind0 (hk y my)
      rw [Rep.int_iff] at rx ry
      subst rx ry
      obtain ⟨t, ep⟩ := rp
      obtain ⟨t', eq⟩ := rq
      show wpAny _ A (keyLt' oneType' p.1 q.1) (fun r s' => s' = _ ∧ r = ltV (rc X ad) H p.1 q.1) _ _
      simp only [dlt] at hd
      cases hd
      have hpp := e
      rw [hpp, ep, eq, keyLt'_oneType]
      exact oneLt_int ⟨rfl, rfl⟩
  · obtain ⟨fs, f1, f2, f3⟩ := firsts_k I' (.inl rfl) hk hr hv
    refine ⟨tuples' true, fun Q E hq => ?_, tups true (fun _ => rfl) (.inl rfl)⟩
    refine PySem.W.kat_kind (T := .type "int") f1 (by omega) (fun f hm => ?_) (by rfl) ?_
    · obtain ⟨x, t, rfl⟩ := (by simpa using f3 f hm : ∃ i t, f = Value.int i t)
      exact PySem.W.Looks.now
    · have e : (Value.type "int" != Value.type "tuple") = true := by first | decide +kernel | rfl | decide
      rw [e]
      exact hq
  · obtain ⟨fs, f1, f2, f3⟩ := firsts_k I' (.inr rfl) hk hr hv
    refine ⟨tuples' false, fun Q E hq => ?_, tups false (fun h => by cases h) (.inr rfl)⟩
    refine PySem.W.kat_kind (T := .type "tuple") f1 (by omega) (fun f hm => ?_) (by rfl) ?_
    · obtain ⟨t, o, rfl, ho, hc⟩ := (by simpa using f3 f hm : ∃ t o, f = Value.ref t ∧ h'.get? t = some o ∧ o.cls = .type "tuple")
      exact fun A Q E s k q => wpAny_typeOf_ref (k _ _ ho) (by rw [hc]; exact q)
    · have e : (Value.type "tuple" != Value.type "tuple") = false := by first | decide +kernel | rfl | decide
      rw [e]
      exact hq
end
end EL

set_option Elab.async false
set_option linter.all false
set_option maxRecDepth 100000
set_option maxHeartbeats 1000000
/-! sorted(..), len(..), isinstance(..) -/
namespace EL
open PySem PySem.Spec PyProof.Rows L2 Srt SrtO

section
variable {prog : Program} {w : World} {A : Around} {E : Value → Shared → Prop} {s : Shared}
theorem sortedHeap_old {h : Heap} {a b : Addr} {vs : List Value} {out : Array Value} {o : Obj} (n : b ≠ a) (e : h.get? b = some o) : (sortedHeap h a vs out).get? b = some o := by
  unfold sortedHeap
  rw [Heap.get?_update_other _ _ (Ne.symm n)]
  refine Heap.get?_push_of_some _ (Heap.get?_push_of_some _ ?_)
  rw [Heap.get?_update_other _ _ (Ne.symm n)]
  exact e
theorem sortedHeap_at {h : Heap} {a : Addr} {vs : List Value} {out xs : Array Value} {n : Nat} (e : h.get? a = some (seqObj "list" xs n)) : ∃ n', (sortedHeap h a vs out).get? a = some (seqObj "list" out n') := by
  unfold sortedHeap
  have e1 := Heap.get?_update_self (Obj.mapSeq fun _ => (#[] : Array Value)) e rfl
  have e2 := Heap.get?_push_of_some (seqObj "list" #[] 0) (Heap.get?_push_of_some (seqObj "tuple" vs.toArray 0) e1)
  have e3 := Heap.get?_update_self (Obj.mapSeq fun _ => out) e2 rfl
  exact ⟨_, e3⟩
theorem sorted_gen {x : Value} {vs : List Value} {ltv : Value → Value → Bool} {Q : Value → Shared → Prop} (O : Swo ltv) (hz : vs.length ≤ sizeLine)
    (hcol : ∀ (Q' : List Value → Shared → Prop), (∀ h' tk, (∀ b o, s.heap.get? b = some o → h'.get? b = some o) → Q' vs { s with heap := h', toks := tk }) → wpAny (model prog w) A.in1 (collect x) Q' E s)
    (hS : 2 ≤ vs.length → ∀ (h₁ : Heap) (a : Addr) (tk : Nat), (∀ b o, s.heap.get? b = some o → b ≠ a ∧ h₁.get? b = some o) → SortableO prog w A.in1.in1 { s with heap := h₁, toks := tk } a vs ltv)
    (h : ∀ (out : List Value) (h1 h' : Heap) (tk : Nat) (d : Addr) (n : Nat), Srtd ltv out → Stb ltv out vs → (∀ b o, s.heap.get? b = some o → h1.get? b = some o) → (∀ b o, h1.get? b = some o → h'.get? b = some o) → h1.objs.size ≤ d → h'.get? d = some (seqObj "list" out.toArray n) → Q (.ref d) { s with heap := h', toks := tk }) :
    wpAny (model prog w) A (call (.builtin "sorted") [x]) Q E s := by
  refine Calls.call_function_entry kind_sorted plain_sorted entry_sorted (args_sorted1 _) ?_
  unfold Builtin.«sorted»
  refine wpAny_bind (m := checkCount "sorted" 1 1 _) (wpAny_pure ?_)
  refine wpAny_bind (hcol _ fun h' tk hk => ?_)
  refine wpAny_bind (wpAny_newList ?_ hz)
  have hoL : (h'.push (seqObj "list" vs.toArray 0)).get? h'.objs.size = some (seqObj "list" vs.toArray 0) := Heap.get?_push_size _ rfl
  have keep : ∀ b o, s.heap.get? b = some o → b ≠ h'.objs.size ∧ (h'.push (seqObj "list" vs.toArray 0)).get? b = some o := fun b o q => by
    have q' := hk b o q
    exact ⟨Nat.ne_of_lt (Heap.lt_size q'), Heap.get?_push_of_some _ q'⟩
  show wpAny _ _ _ _ _ { s with heap := h'.push (seqObj "list" vs.toArray 0), toks := tk }
  refine wpAny_bind (wpAny_holding (wpAny_call_entry slot_list_sort ⟨_, hoL, rfl⟩ entry_list_sort (list_sort_ord O hoL hz (fun h2 => hS h2 _ _ _ keep) fun out hs hb => ⟨_, rfl, ?_⟩) (args_list_sort _)))
  obtain ⟨n', e'⟩ := sortedHeap_at (vs := vs) (out := out.toArray) hoL
  exact wpAny_pure ⟨_, rfl, h out h' _ tk _ n' hs hb hk (fun b o q => sortedHeap_old (Nat.ne_of_lt (Heap.lt_size q)) (Heap.get?_push_of_some _ q)) (Nat.le_refl _) e'⟩
theorem collect_kdl {T : String} {r d : Addr} {n : Nat} {P : Nat → Value → Prop} {OK : Heap → Prop} {R : List Value → Shared → Prop} (K : PySem.W.KdlSrc prog w T r d n P OK) (hh : A.handled = none) (hok : OK s.heap) (hn : n ≤ sizeLine)
    (h : ∀ (h' : Heap) (tk : Nat) (acc : Array Value), (∀ b o, s.heap.get? b = some o → h'.get? b = some o) → ItemsOf P acc n → R acc.toList { s with heap := h', toks := tk }) :
    wpAny (model prog w) A (collect (.ref r)) R E s := by
  have hlt := K.there _ hok
  unfold collect
  refine wpAny_bind (wpAny_runValue (codeAny_builtin entry_proto_collect' ?_))
  rw [Around.under_plainId PySem.F.plain_proto_collect _]
  show wpAny _ A.in1 (newList [] >>= fun l => again (.builtin "list.__iadd__" ⟨[l, .ref r], []⟩)) _ _ s
  refine wpAny_bind (wpAny_newObj_type ?_)
  refine wpAny_pure ⟨plainId_quiet PySem.F.plain_list_iadd _, codeAny_builtin entry_list_iadd' ?_⟩
  rw [Around.under_plainId PySem.F.plain_list_iadd _]
  have hS₁ : (s.heap.push { cls := .type "list", data := .seq ([] : List Value).toArray }).get? s.heap.objs.size = some { cls := .type "list", data := .seq #[] } := Heap.get?_push_size _ rfl
  show wpAny _ A.in1 (Builtin.List.listExtendWith (.ref s.heap.objs.size) (.ref r) (.ref s.heap.objs.size)) _ _ _
  have key := PySem.W.kdl_extend (A := A) (s := { s with heap := s.heap.push { cls := .type "list", data := .seq ([] : List Value).toArray } })
    (R := fun (q : Result) (s' : Shared) => ∃ (h' : Heap) (tk : Nat) (acc' : Array Value) (c' : Nat), q = .ok (.ret (.ref s.heap.objs.size)) ∧ s' = { s with heap := h', toks := tk } ∧
      (∀ b o, s.heap.get? b = some o → h'.get? b = some o) ∧ h'.get? s.heap.objs.size = some { cls := .type "list", dict := none, data := .seq acc' c', slots := #[] } ∧ ItemsOf P acc' n)
    K hh (K.keep _ _ hok fun b _ o e => Heap.get?_push_of_some _ e) s.heap.objs.size (Nat.ne_of_gt hlt.1) (Nat.ne_of_gt hlt.2) (.ref s.heap.objs.size) 0 hS₁
    (fun h' tk acc' c' hk hS' hacc => ⟨h', tk, acc', c', rfl, rfl, fun b o e => hk b o (Nat.ne_of_lt (Heap.lt_size e)) (Heap.get?_push_of_some _ e), hS', hacc⟩) hn
  refine wpAny_mono key (fun fin s' x => ?_) fun e s' x => ?_
  · cases fin with
    | done f =>
      obtain ⟨h', tk, acc', c', e, rfl, hk, hS', hacc⟩ := x
      cases e
      show wpAny _ A (load s.heap.objs.size >>= _) _ _ _
      refine wpAny_bind (wpAny_load hS' ?_)
      exact wpAny_pure (h h' tk acc' hk hacc)
    | again c₁ =>
      refine ⟨x.1, codeAny_mono x.2 fun q s₂ y => ?_⟩
      obtain ⟨h', tk, acc', c', rfl, rfl, hk, hS', hacc⟩ := y
      show wpAny _ A (load s.heap.objs.size >>= _) _ _ _
      refine wpAny_bind (wpAny_load hS' ?_)
      exact wpAny_pure (h h' tk acc' hk hacc)
  · obtain ⟨_, _, _, _, e', _⟩ := x
    cases e'
end
section
variable {X : Cx} {ad : Nat → Addr}
/-- sorted(x): x a list, a tuple, a dict -/
def rSortD (X : Cx) (ad : Nat → Addr) : List V → Hp → VK → Prop := fun xs H Q => ∃ (p : Addr) (ds : List D) (us : List V), xs = [.ref p] ∧ Reps (rc X ad) H ds us ∧ pairOk ds = true ∧
  (SqL X.K H p us ∨ SqT X.K H p us ∨ ∃ rows, Rd H p (dicO p rows) ∧ Vals us (rows.map (·.key)) ∧ ds.length ≤ sizeLine) ∧
  ∀ (ws : List V) (q : Addr), (∀ G, Reps (rc X ad) G ds us → Reps (rc X ad) G (dsort ds) ws) → H q = none → Q (.ref q) (upd H q (.lst ws))
theorem reps_of_get {R : RC} {G : Hp} : ∀ {ds : List D} {ws : List V}, ds.length = ws.length → (∀ (i : Nat) (d : D) (w : V), ds[i]? = some d → ws[i]? = some w → Rep R G d w) → Reps R G ds ws
  | [], [], _, _ => Reps.nil
  | [], _ :: _, h, _ => by simp at h
  | _ :: _, [], h, _ => by simp at h
  | d :: ds, w :: ws, h, k => Reps.cons (k 0 d w rfl rfl) (reps_of_get (by simpa using h) fun i d w h1 h2 => k (i + 1) d w (by simpa using h1) (by simpa using h2))
theorem sort_end {pins : List (Addr × Obj)} {σ : L2.St} {H : Hp} {s : Shared} (I : L2.Inv X pins σ H s) {ds : List D} {us : List V} {vs out : List Value} (hr : Reps (rc X ad) H ds us) (hv : Vals us vs) (hp : pairOk ds = true) (hs : Srtd (ltV (rc X ad) H) out) (hb : out.Perm vs) :
    ∃ ws, Vals ws out ∧ ws.length = us.length ∧ ∀ G, Reps (rc X ad) G ds us → Reps (rc X ad) G (dsort ds) ws := by
  have at_ : ∀ u ∈ vs, ∃ (j : Nat) (d : D) (v : V), ds[j]? = some d ∧ us[j]? = some v ∧ vs[j]? = some u ∧ RelV v u ∧ dV (rc X ad) H u = d := fun u hu => by
    obtain ⟨j, d, v, e1, e2, e3, e4, e5⟩ := mem_reps hv hr hu
    exact ⟨j, d, v, e1, e2, e3, e4, dV_eq I (pairOk_ord hp d (mem_of_get e1)).1 e4 e5⟩
  have hmap : vs.map (dV (rc X ad) H) = ds := by
    apply List.ext_getElem?
    intro j
    rw [List.getElem?_map]
    have hl : ds.length = vs.length := by rw [hr.length, hv.length]
    cases e : vs[j]? with
    | none =>
      have := List.getElem?_eq_none_iff.mp e
      rw [List.getElem?_eq_none (by omega)]
      rfl
    | some u =>
      have hd : ∃ d, ds[j]? = some d := by
        have := (List.getElem?_eq_some_iff.mp e).1
        exact ⟨ds[j], List.getElem?_eq_getElem (by omega)⟩
      obtain ⟨d, hd⟩ := hd
      obtain ⟨v, hv1, hv2⟩ := hr.get hd
      obtain ⟨u', hu1, hu2⟩ := Vals.get hv hv1
      rw [e] at hu1
      cases hu1
      rw [hd]
      exact congrArg some (dV_eq I (pairOk_ord hp d (mem_of_get hd)).1 hu2 hv2)
  have hsd : out.map (dV (rc X ad) H) = dsort ds := by
    refine sd_unique (fun y hy => ?_) ?_ (dsort_sd ds fun y hy => (pairOk_ord hp y hy).1) ?_
    · obtain ⟨u, _, rfl⟩ := List.mem_map.mp hy
      exact dV_ord ..
    · exact List.pairwise_map.mpr hs
    · exact ((hb.map _).trans (by rw [hmap])).trans (dsort_perm ds).symm
  have hw : ∀ (out : List Value), (∀ u ∈ out, u ∈ vs) → ∃ ws, Vals ws out ∧ ∀ (i : Nat) (w : V), ws[i]? = some w → ∃ (j : Nat) (d : D) (u : Value), out[i]? = some u ∧ ds[j]? = some d ∧ us[j]? = some w ∧ dV (rc X ad) H u = d := by
    intro out
    induction out with
    | nil => exact fun _ => ⟨[], .nil, fun i w h => by simp at h⟩
    | cons u out ih =>
      intro hm
      obtain ⟨ws, h1, h2⟩ := ih fun x hx => hm x (List.mem_cons_of_mem _ hx)
      obtain ⟨j, d, v, e1, e2, e3, e4, e5⟩ := at_ u (hm u List.mem_cons_self)
      refine ⟨v :: ws, .cons e4 h1, fun i w hw => ?_⟩
      cases i with
      | zero =>
        simp at hw
        subst hw
        exact ⟨j, d, u, rfl, e1, e2, e5⟩
      | succ i =>
        obtain ⟨j', d', u', f1, f2⟩ := h2 i w (by simpa using hw)
        exact ⟨j', d', u', by simpa using f1, f2⟩
  obtain ⟨ws, h1, h2⟩ := hw out fun u hu => hb.mem_iff.mp hu
  refine ⟨ws, h1, by rw [h1.length, hb.length_eq, hv.length], fun G hG => reps_of_get ?_ fun i d w hd hw => ?_⟩
  · rw [← hsd, List.length_map, h1.length]
  · obtain ⟨j, d', u, f1, f2, f3, f4⟩ := h2 i w hw
    have : dsort ds = out.map (dV (rc X ad) H) := hsd.symm
    rw [this, List.getElem?_map, f1] at hd
    have hd : dV (rc X ad) H u = d := by simpa using hd
    obtain ⟨v', g1, g2⟩ := hG.get f2
    rw [f3] at g1
    cases g1
    rw [← hd, f4]
    exact g2
theorem cr_sortD (hc : X.calm = true) (hu : X.A.units + 100 < cLine) : CallR X (.builtin "sorted") (rSortD X ad) := by
  intro pins s σ H xs us Q I r h
  obtain ⟨p, ds, vs, rfl, hr, hp, hsrc, q⟩ := h
  rw [Vals.ref1 r]
  have go : ∀ (its : List Value), Vals vs its → its.length ≤ sizeLine → (∀ (Q' : List Value → Shared → Prop), (∀ h' tk, (∀ b o, s.heap.get? b = some o → h'.get? b = some o) → Q' its { s with heap := h', toks := tk }) → wpAny (model X.prog X.w) X.A.in1 (collect (.ref p)) Q' X.xe s) →
      wpAny (model X.prog X.w) X.A (call (.builtin "sorted") [.ref p]) (EP X pins σ Q) X.xe s := fun its hv hz hcol => by
    refine sorted_gen (swo_V (rc X ad) H) hz hcol (fun h2 h₁ a tk kk => sortable_D I (A := X.A.in1.in1) (by show X.A.units + 1 + 1 + 70 < _; omega) hr hv hp h2 kk) fun out h1 h' tk d n hs hb k1 k2 hd e => ?_
    obtain ⟨ws, w1, w2, w3⟩ := sort_end I hr hv hp hs hb.perm
    have I1 : L2.Inv X pins σ H { s with heap := h1, toks := tk } := I.kept k1
    refine ⟨.ref d, upd H d (.lst ws), ?_, rfl, q ws d w3 (I1.hok.fresh hd)⟩
    have I2 := I1.laid (h' := h') (t' := tk) (a := d) (o := .lst ws) k2 hd ⟨by rw [w2, hv.length]; exact hz, out, n, w1, e⟩
    exact I2
  rcases hsrc with hl | hl | ⟨rows, hl, hk, hz⟩
  · obtain ⟨its, rv, ⟨o, n, ho, hc', _, hd⟩, hz⟩ := I.list hl
    refine go its rv (by rw [← rv.length]; exact hz) fun Q' hQ => ?_
    refine wpAny_collect_seq p (.inl rfl) ho hc' hd (fun h' hk => by simpa using hQ h' s.toks hk) (by rw [List.size_toArray, ← rv.length]; exact hz)
  · obtain ⟨its, rv, ⟨o, ho, hc', n, hd⟩, hz⟩ := I.tuple hl
    refine go its rv (by rw [← rv.length]; exact hz) fun Q' hQ => ?_
    refine wpAny_collect_seq p (.inr rfl) ho hc' hd (fun h' hk => by simpa using hQ h' s.toks hk) (by rw [List.size_toArray, ← rv.length]; exact hz)
  · obtain ⟨o, es, ep, e1, e2, e3, e4, e5⟩ := dic_rd I hl
    have hlen : es.size = ds.length := by
      rw [hr.length, hk.length, List.length_map, ← e4, Array.length_toList]
    refine go _ hk (by rw [← hk.length, ← hr.length]; exact hz) fun Q' hQ => ?_
    refine collect_kdl (A := X.A.in1) (kdl_raw e5 e2 e3) (by show X.A.handled = none; exact I.ok.hd hc) e1 (by rw [hlen]; exact hz) fun h' tk acc hk' hi => ?_
    have : acc.toList = rows.map (·.key) := by
      rw [← e4]
      apply List.ext_getElem?
      intro j
      rw [List.getElem?_map, Array.getElem?_toList, Array.getElem?_toList]
      cases e : acc[j]? with
      | none =>
        have := Array.getElem?_eq_none_iff.mp e
        rw [Array.getElem?_eq_none (by rw [← hi.1]; exact this)]
        rfl
      | some v =>
        obtain ⟨en, g1, g2⟩ := hi.2 j v e
        rw [g1, g2] <;> rfl
    rw [this]
    exact hQ h' tk hk'
theorem b_sorted {lt : Bool} {E : Wx} : BOk X ad lt E (rSortD X ad) f_sorted := by
  intro Φ δ σ H rs vs ds rv Q e1 e2 R v l g p
  have eK : Φ.R.K = X.K := by rw [e1]; rfl
  have fin : ∀ {ds : List D} {us : List V}, Reps Φ.R (gG Φ X0 δ σ H) ds us → PostE Φ E σ (gG Φ X0 δ σ H) (.ok (.fr (.lst (dsort ds))) δ) Q → ∀ (ws : List V) (q : Addr), (∀ G, Reps (rc X ad) G ds us → Reps (rc X ad) G (dsort ds) ws) → H q = none → Q (.ref q) (upd H q (.lst ws)) :=
    fun hr p ws q hG hq => post_lst R p (by have := hG _ (e1 ▸ hr); rw [e1]; exact this) hq
  unfold f_sorted at g
  split at g
  · split at g
    · rename_i ds hp
      cases g
      obtain ⟨r, u, rfl, h1, h2⟩ := vals1' v l
      obtain ⟨a, us, rfl, q1, q2⟩ := h1.lst R h2
      exact ⟨a, ds, us, rfl, e1 ▸ (q2.mono (hid_le _ _)), hp, .inl (eK ▸ q1), fin q2 p⟩
    · cases g
  · split at g
    · rename_i ds hp
      cases g
      obtain ⟨r, u, rfl, h1, h2⟩ := vals1' v l
      obtain ⟨a, us, rfl, q1, q2⟩ := h1.tup R h2
      exact ⟨a, ds, us, rfl, e1 ▸ (q2.mono (hid_le _ _)), hp, .inr (.inl (eK ▸ gT q1)), fin q2 p⟩
    · cases g
  · split at g
    · rename_i ks vs' hp
      rw [Bool.and_eq_true] at hp
      cases g
      obtain ⟨r, u, rfl, h1, h2⟩ := vals1' v l
      obtain ⟨a, rows, rfl, q1, ⟨_, ⟨us, q2, q3⟩, _⟩⟩ := h1.dic R h2
      exact ⟨a, ks, us, rfl, e1 ▸ (q3.mono (hid_le _ _)), hp.1, .inr (.inr ⟨rows, q1, q2, of_decide_eq_true hp.2⟩), fin q3 p⟩
    · cases g
  · cases g

/-! ### len -/
def rLenD (X : Cx) (ad : Nat → Addr) : List V → Hp → VK → Prop := fun xs H Q => (∃ x n, xs = [x] ∧ LenV X.K x H n ∧ Q (.int n) H) ∨
  ∃ (a : Addr) (rows : List DictEntry) (ks ds : List D), xs = [.ref a] ∧ Rd H a (dicO a rows) ∧ DicP (rc X ad) H rows ks ds ∧ ks.length ≤ sizeLine ∧ Q (.int ks.length) H
theorem cr_lenD : CallR X (.builtin "len") (rLenD X ad) := by
  intro pins s σ H xs us Q I r h
  rcases h with h | ⟨a, rows, ks, ds, rfl, h1, h2, h3, q⟩
  · exact call_len pins s σ H xs us Q I r h
  · rw [Vals.ref1 r]
    exact c_len I (fun _ _ h => h) h1 h2 h3 fun t s' I' => ⟨.int _, H, I', ⟨t, rfl⟩, q⟩
theorem b_len {lt : Bool} {E : Wx} : BOk X ad lt E (rLenD X ad) f_len := by
  intro Φ δ σ H rs vs ds rv Q e1 e2 R v l g p
  have eK : Φ.R.K = X.K := by rw [e1]; rfl
  unfold f_len at g
  split at g
  · cases g
    obtain ⟨r, u, rfl, h1, h2⟩ := vals1' v l
    obtain ⟨a, us, rfl, q1, q2⟩ := h1.lst R h2
    exact .inl ⟨_, _, rfl, .inl ⟨us, eK ▸ q1, rfl⟩, by rw [← q2.length]; exact post_sc R p rfl⟩
  · cases g
    obtain ⟨r, u, rfl, h1, h2⟩ := vals1' v l
    obtain ⟨a, us, rfl, q1, q2⟩ := h1.tup R h2
    exact .inl ⟨_, _, rfl, .inr ⟨us, eK ▸ gT q1, rfl⟩, by rw [← q2.length]; exact post_sc R p rfl⟩
  · split at g
    · rename_i x hz
      cases g
      obtain ⟨r, u, rfl, h1, h2⟩ := vals1' v l
      rw [Rep.str_iff.mp (h1.full R h2)]
      exact .inl ⟨_, _, rfl, ⟨of_decide_eq_true hz, rfl⟩, post_sc R p rfl⟩
    · cases g
  · split at g
    · rename_i ks vs' hz
      cases g
      obtain ⟨r, u, rfl, h1, h2⟩ := vals1' v l
      obtain ⟨a, rows, rfl, q1, ⟨q0, ⟨us, q2, q3⟩, ⟨ws, q4, q5⟩⟩⟩ := h1.dic R h2
      rw [e1] at q0
      exact .inr ⟨a, rows, ks, vs', rfl, q1, ⟨q0, ⟨us, q2, e1 ▸ q3.mono (hid_le _ _)⟩, ⟨ws, q4, e1 ▸ q5.mono (hid_le _ _)⟩⟩, of_decide_eq_true hz, post_sc R p rfl⟩
    · cases g
  · cases g
end
end EL

set_option Elab.async false
set_option linter.all false
set_option maxRecDepth 100000
set_option maxHeartbeats 1000000
/-! isinstance -/
namespace EL
open PySem PySem.Spec PyProof.Rows L2
def tyN : D → String
  | .non => "NoneType"
  | .bl _ => "bool"
  | .int _ => "int"
  | .str _ => "str"
  | .tup _ => "tuple"
  | .lst _ => "list"
  | .dic _ _ => "dict"
  | _ => ""
theorem okTy_of {n : String} (h : okTy n = true) : n = "bool" ∨ n = "int" ∨ n = "str" ∨ n = "tuple" ∨ n = "list" ∨ n = "dict" := by
  unfold okTy at h
  simp only [Bool.or_eq_true, beq_iff_eq] at h
  simpa only [or_assoc] using h
theorem kitD_all : ∀ n ∈ ["bool", "int", "str", "tuple", "list", "dict"], kitB "NoneType" n = some (n == "NoneType") ∧ kitB "bool" n = some (n == "bool" || n == "int") ∧ kitB "int" n = some (n == "int") ∧ kitB "str" n = some (n == "str") ∧
    kitB "tuple" n = some (n == "tuple") ∧ kitB "list" n = some (n == "list") ∧ kitB "dict" n = some (n == "dict") := by decide +kernel
theorem okTy_mem {n : String} (h : okTy n = true) : n ∈ ["bool", "int", "str", "tuple", "list", "dict"] := by
  rcases okTy_of h with rfl | rfl | rfl | rfl | rfl | rfl <;> simp
theorem kit_isTy {K : PySem.W.Frag} {n : String} {d : D} {b : Bool} (h : okTy n = true) (e : isTy n d = some b) : PySem.W.kitOne K (.type (tyN d)) (.type n) = some b := by
  obtain ⟨h1, h2, h3, h4, h5, h6, h7⟩ := kitD_all n (okTy_mem h)
  refine kit_ty ?_
  cases d <;> simp only [isTy] at e <;> first | (cases e; done) | skip
  all_goals cases e
  all_goals simp only [tyN]
  all_goals assumption
section
variable {X : Cx} {ad : Nat → Addr}
theorem kit_D {pins : List (Addr × Obj)} {σ : L2.St} {H : Hp} {s : Shared} (I : L2.Inv X pins σ H s) {n : String} {d : D} {b : Bool} {x : V} {u : Value} (e : isTy n d = some b) (r : Rep (rc X ad) H d x) (rx : RelV x u) :
    ∃ P : Heap → Prop, PySem.W.KitX X.K u (.type (tyN d)) P ∧ P s.heap ∧ u ≠ .builtin "__main__.__loader__#opaque" := by
  cases d with
  | non => rw [Rep.non_iff] at r; subst r; cases (show u = Value.none from rx); exact ⟨_, PySem.W.kitx_none, True.intro, fun z => nomatch z⟩
  | bl y => rw [Rep.bl_iff] at r; subst r; cases (show u = Value.bool y from rx); exact ⟨_, PySem.W.kitx_bool, True.intro, fun z => nomatch z⟩
  | int i => rw [Rep.int_iff] at r; subst r; obtain ⟨t, q⟩ := (show ∃ t, u = Value.int i t from rx); cases q; exact ⟨_, PySem.W.kitx_int, True.intro, fun z => nomatch z⟩
  | str y => rw [Rep.str_iff] at r; subst r; obtain ⟨t, q⟩ := (show ∃ t, u = Value.str y t from rx); cases q; exact ⟨_, PySem.W.kitx_str, True.intro, fun z => nomatch z⟩
  | tup ds =>
    rw [Rep.tup_iff] at r
    obtain ⟨a, vs, rfl, s1, _⟩ := r
    cases rx
    obtain ⟨its, _, ⟨o, ho, hc, _⟩, _⟩ := I.tuple s1
    exact ⟨_, PySem.W.kitx_tuple, ⟨o, ho, hc⟩, fun z => nomatch z⟩
  | lst ds =>
    rw [Rep.lst_iff] at r
    obtain ⟨a, vs, rfl, s1, _⟩ := r
    cases rx
    obtain ⟨its, _, ⟨o, n, ho, hc, _⟩, _⟩ := I.list s1
    exact ⟨_, PySem.W.kitx_list, ⟨o, ho, hc⟩, fun z => nomatch z⟩
  | dic ks ds =>
    obtain ⟨a, rows, rfl, s1, _⟩ := dic_parts r
    cases rx
    obtain ⟨o, es, ep, e1, e2, _⟩ := dic_rd I s1
    exact ⟨_, PySem.W.kitx_dict, ⟨o, e1, e2.1⟩, fun z => nomatch z⟩
  | _ => cases e
def rIsD (X : Cx) (ad : Nat → Addr) : List V → Hp → VK → Prop := fun xs H Q => ∃ (x : V) (d : D), Rep (rc X ad) H d x ∧
  ((∃ n b, xs = [x, .ty n] ∧ okTy n = true ∧ isTy n d = some b ∧ Q (.bl b) H) ∨ ∃ n m a b tp, xs = [x, .ref tp] ∧ SqT X.K H tp [.ty n, .ty m] ∧ okTy n = true ∧ okTy m = true ∧ isTy n d = some a ∧ isTy m d = some b ∧ Q (.bl (a || b)) H)
theorem cr_isD : CallR X (.builtin "isinstance") (rIsD X ad) := by
  intro pins s σ H xs us Q I r h
  obtain ⟨x, d, rd, h⟩ := h
  rcases h with ⟨n, b, rfl, hn, e, q⟩ | ⟨n, m, a, b, tp, rfl, ht, hn, hm, e, e', q⟩
  · obtain ⟨u1, u2, rfl, r1, r2⟩ := vals2 r
    cases (show u2 = Value.type n from r2)
    obtain ⟨P, Z, p, hx⟩ := kit_D I e rd r1
    exact PySem.W.kia_one Z I.kIn p (kit_isTy hn e) hx fun tk => ⟨.bl b, H, I.tok tk, rfl, q⟩
  · obtain ⟨u1, u2, rfl, r1, r2⟩ := vals2 r
    cases (show u2 = Value.ref tp from r2)
    obtain ⟨P, Z, p, hx⟩ := kit_D I e rd r1
    obtain ⟨its, rv, ⟨o, ho, hc, n', hd⟩, _⟩ := I.tuple ht
    obtain ⟨w1, w2, rfl, q1, q2⟩ := vals2 rv
    cases (show w1 = Value.type n from q1)
    cases (show w2 = Value.type m from q2)
    obtain ⟨oc, od, dt, sl⟩ := o
    simp only at hc hd
    subst hc hd
    refine PySem.W.kia_tup Z I.kIn p ho (kitAny_cons (kit_isTy hn e) (fun ea => kitAny_cons (b := b) (kit_isTy hm e') (fun eb => ?_) (fun eb => ?_)) (fun ea => ?_)) hx fun tk => ⟨.bl (a || b), H, I.tok tk, rfl, q⟩
    · rw [ea, eb]; exact kitAny_nil
    · rw [ea, eb]; rfl
    · rw [ea]; rfl
theorem b_isi {lt : Bool} {E : Wx} : BOk X ad lt E (rIsD X ad) f_isi := by
  intro Φ δ σ H rs vs ds rv Q e1 e2 R v l g p
  unfold f_isi at g
  split at g
  · rename_i d n
    split at g
    · rename_i hn
      rw [Option.map_eq_some_iff] at g
      obtain ⟨b, e, rfl⟩ := g
      have h := vals_full R v l
      obtain ⟨x, t, rfl, h1, h2⟩ := h.inv
      obtain ⟨y, t', rfl, h3, h4⟩ := h2.inv
      cases h4.inv0
      simp only [Rep] at h3
      subst h3
      exact ⟨x, d, e1 ▸ h1, .inl ⟨n, b, rfl, hn, e, post_sc R p rfl⟩⟩
    · cases g
  · rename_i d n m
    split at g
    · rename_i hn
      rw [Bool.and_eq_true] at hn
      rw [Option.bind_eq_some_iff] at g
      obtain ⟨a, ea, g⟩ := g
      rw [Option.map_eq_some_iff] at g
      obtain ⟨b, eb, rfl⟩ := g
      have h := vals_full R v l
      obtain ⟨x, t, rfl, h1, h2⟩ := h.inv
      obtain ⟨y, t', rfl, h3, h4⟩ := h2.inv
      cases h4.inv0
      rw [Rep.tup_iff] at h3
      obtain ⟨tp, ws, rfl, s1, r1⟩ := h3
      obtain ⟨w1, r1', rfl, g1, g2⟩ := r1.inv
      obtain ⟨w2, r2', rfl, g3, g4⟩ := g2.inv
      cases g4.inv0
      simp only [Rep] at g1 g3
      subst g1 g3
      have eK : Φ.R.K = X.K := by rw [e1]; rfl
      exact ⟨x, d, e1 ▸ h1, .inr ⟨n, m, a, b, tp, rfl, eK ▸ s1, hn.1, hn.2, ea, eb, post_sc R p rfl⟩⟩
    · cases g
  · cases g
end
/-! a built-in class as a value -/
section
variable {X : Cx} {ad : Nat → Addr} {lt : Bool} {E : Wx} {C : Cn} {pos : Pos}
theorem e_ty {x : Str} {n : String} (hg : Gl X x) (hm : X.mg x = none) (hv : bootBuiltins x = some (.type n)) (hx : okNm x = true) : PE X (.Name x pos) (rdE (rc X ad) lt E (evE C (.cst (.ty n)))) := by
  refine PE.imp (pe_bltn (v := .ty n) hg hm hv rfl (okNm_nm hx) (okNm_dbg hx)) fun σ H Q h => ?_
  obtain ⟨Φ, δ, e1, e2, R0, p⟩ := h
  exact p _ H ⟨R0, Gr.refl _, by simp only [Rep]⟩
end
end EL

set_option Elab.async false
set_option linter.all false
set_option maxRecDepth 100000
set_option maxHeartbeats 1000000
/-! what loops walk -/
namespace EL
open PySem PySem.Spec PyProof.Rows L2 RZ
/-- the iterator J walks ds -/
def Wks (R : RC) (G0 : Hp) (J : It) (ds : List D) : Prop := ∀ (H : Hp), Gr G0 H → ∀ i : Nat, (ds.length ≤ i → J.stop i H) ∧ ∀ d, ds[i]? = some d → J.go i H ∧ ∀ x H', J.yld i H x H' →
  (H' = H ∧ Rep R G0 d x) ∨ ∃ p es vs, x = .ref p ∧ H p = none ∧ H' = upd H p (.tup vs) ∧ d = .tup es ∧ Reps R G0 es vs
section
variable {R : RC} {G0 : Hp}
theorem wks_list {a : Addr} {ds : List D} {vs : List V} (h : SqL R.K G0 a vs) (hr : Reps R G0 ds vs) : Wks R G0 (Itl R.K a) ds := by
  intro H g i
  have hs := g.sqL h
  refine ⟨fun hi => ⟨vs, hs, by rw [← hr.length]; exact hi⟩, fun d hd => ?_⟩
  obtain ⟨v, h1, h2⟩ := hr.get hd
  refine ⟨⟨vs, v, hs, h1⟩, fun x H' ⟨e, hy⟩ => .inl ⟨e, ?_⟩⟩
  have := hy vs hs
  rw [h1] at this
  cases this
  exact h2
theorem wks_tup {a : Addr} {ds : List D} {vs : List V} (h : SqT R.K G0 a vs) (hr : Reps R G0 ds vs) : Wks R G0 (Itt R.K a) ds := by
  intro H g i
  have hs := g.sqT h
  refine ⟨fun hi => ⟨vs, hs, by rw [← hr.length]; exact hi⟩, fun d hd => ?_⟩
  obtain ⟨v, h1, h2⟩ := hr.get hd
  refine ⟨⟨vs, v, hs, h1⟩, fun x H' ⟨e, hy⟩ => .inl ⟨e, ?_⟩⟩
  have := hy vs hs
  rw [h1] at this
  cases this
  exact h2
theorem rngD_length (lo : Int) (n : Nat) : (rngD lo n).length = n := by unfold rngD; rw [List.length_map, List.length_range]
theorem rngD_get {lo : Int} {n i : Nat} {d : D} (h : (rngD lo n)[i]? = some d) : i < n ∧ d = .int (lo + (i : Int)) := by
  unfold rngD at h
  rw [List.getElem?_map] at h
  cases e : (List.range n)[i]? with
  | none => rw [e] at h; cases h
  | some k =>
    rw [e] at h
    obtain ⟨h1, h2⟩ := List.getElem?_eq_some_iff.mp e
    rw [List.length_range] at h1
    rw [List.getElem_range] at h2
    subst h2
    cases h
    exact ⟨h1, rfl⟩
theorem wks_rng {lo : Int} {n : Nat} : Wks R G0 (Itr lo n) (rngD lo n) := by
  intro H g i
  refine ⟨fun hi => ?_, fun d hd => ?_⟩
  · rw [rngD_length] at hi
    exact hi
  · obtain ⟨h1, h2⟩ := rngD_get hd
    exact ⟨h1, fun x H' ⟨e, hx⟩ => .inl ⟨e, by rw [h2, hx]; exact Rep.int_iff.mpr rfl⟩⟩
theorem zip_get {ds es : List D} {i : Nat} {d : D} (h : (ds.zipWith (fun d e => D.tup [d, e]) es)[i]? = some d) : ∃ x y, ds[i]? = some x ∧ es[i]? = some y ∧ d = .tup [x, y] := by
  rw [List.getElem?_zipWith] at h
  cases e1 : ds[i]? with
  | none => rw [e1] at h; cases h
  | some x =>
    cases e2 : es[i]? with
    | none => rw [e1, e2] at h; cases h
    | some y =>
      rw [e1, e2] at h
      cases h
      exact ⟨x, y, rfl, rfl, rfl⟩
theorem wks_zip {a b : Addr} {ds es : List D} {vs us : List V} (h : SqL R.K G0 a vs) (hr : Reps R G0 ds vs) (h' : SqL R.K G0 b us) (hr' : Reps R G0 es us) : Wks R G0 (Itz R.K a b) (ds.zipWith (fun d e => .tup [d, e]) es) := by
  intro H g i
  have hs := g.sqL h
  have hs' := g.sqL h'
  refine ⟨fun hi => ⟨vs, us, hs, hs', ?_⟩, fun d hd => ?_⟩
  · rw [List.length_zipWith, hr.length, hr'.length] at hi
    omega
  · obtain ⟨x, y, e1, e2, rfl⟩ := zip_get hd
    obtain ⟨v, h1, h2⟩ := hr.get e1
    obtain ⟨u, k1, k2⟩ := hr'.get e2
    refine ⟨⟨vs, us, v, u, hs, hs', h1, k1⟩, fun w H' ⟨T, p, q, ew, hT, eH, hp, hq⟩ => .inr ⟨T, [x, y], [p, q], ew, hT, eH, rfl, ?_⟩⟩
    have hp := hp vs hs
    have hq := hq us hs'
    rw [h1] at hp
    rw [k1] at hq
    cases hp
    cases hq
    exact .cons h2 (.cons k2 .nil)
theorem wks_zipT {a b : Addr} {ds es : List D} {vs us : List V} (h : SqT R.K G0 a vs) (hr : Reps R G0 ds vs) (h' : SqT R.K G0 b us) (hr' : Reps R G0 es us) : Wks R G0 (ItzT R.K a b) (ds.zipWith (fun d e => .tup [d, e]) es) := by
  intro H g i
  have hs := g.sqT h
  have hs' := g.sqT h'
  refine ⟨fun hi => ⟨vs, us, hs, hs', ?_⟩, fun d hd => ?_⟩
  · rw [List.length_zipWith, hr.length, hr'.length] at hi
    omega
  · obtain ⟨x, y, e1, e2, rfl⟩ := zip_get hd
    obtain ⟨v, h1, h2⟩ := hr.get e1
    obtain ⟨u, k1, k2⟩ := hr'.get e2
    refine ⟨⟨vs, us, v, u, hs, hs', h1, k1⟩, fun w H' ⟨T, p, q, ew, hT, eH, hp, hq⟩ => .inr ⟨T, [x, y], [p, q], ew, hT, eH, rfl, ?_⟩⟩
    have hp := hp vs hs
    have hq := hq us hs'
    rw [h1] at hp
    rw [k1] at hq
    cases hp
    cases hq
    exact .cons h2 (.cons k2 .nil)
theorem wks_enum {a : Addr} {ds : List D} {vs : List V} (h : SqL R.K G0 a vs) (hr : Reps R G0 ds vs) : Wks R G0 (Ite R.K a) ((List.range ds.length).zipWith (fun (i : Nat) d => D.tup [.int (i : Int), d]) ds) := by
  intro H g i
  have hs := g.sqL h
  refine ⟨fun hi => ⟨vs, hs, ?_⟩, fun d hd => ?_⟩
  · rw [List.length_zipWith, List.length_range, hr.length] at hi
    omega
  · rw [List.getElem?_zipWith] at hd
    cases e1 : (List.range ds.length)[i]? with
    | none => rw [e1] at hd; cases hd
    | some k =>
      cases e2 : ds[i]? with
      | none => rw [e1, e2] at hd; cases hd
      | some x =>
        rw [e1, e2] at hd
        obtain ⟨_, hk⟩ := List.getElem?_eq_some_iff.mp e1
        rw [List.getElem_range] at hk
        subst hk
        cases hd
        obtain ⟨v, h1, h2⟩ := hr.get e2
        refine ⟨⟨vs, v, hs, h1⟩, fun w H' ⟨T, p, ew, hT, eH, hp⟩ => .inr ⟨T, _, _, ew, hT, eH, rfl, ?_⟩⟩
        have hp := hp vs hs
        rw [h1] at hp
        cases hp
        exact .cons (Rep.int_iff.mpr rfl) (.cons h2 .nil)
end
/-- what a loop's head is to tell -/
def PostI (Φ : Fr) (E : Wx) (σ : L2.St) (G0 : Hp) (o : Oc (List D)) (Q : It → Hp → Prop) : Prop := match o with
  | .bad => False
  | .ex c δ => ∀ H, Rl Φ X0 δ σ H → E σ c H
  | .ok ds δ => ∀ J H, Rl Φ X0 δ σ H → Gr G0 (gG Φ X0 δ σ H) → Wks Φ.R (gG Φ X0 δ σ H) J ds → Q J H
def rdI (R : RC) (lt : Bool) (E : Wx) (f : Ds → Oc (List D)) : TI := fun σ H Q => ∃ Φ δ, Φ.R = R ∧ Φ.L.isSome = lt ∧ Rl Φ X0 δ σ H ∧ PostI Φ E σ (gG Φ X0 δ σ H) (f δ) Q
def srcF (C : Cn) (k : Sk) (src : ME) : Ds → Oc (List D) := fun δ => (evL C src δ).bind fun rs δ1 => match looks rs δ1 with
  | none => .bad
  | some ss => match srcD k ss with
    | none => .bad
    | some ds => if lends rs δ1 then .bad else .ok ds δ1
theorem PI.imp {X : Cx} {tg e : Expr} {t t' : TI} (h : PI X tg e t) (w : ∀ σ H Q, t' σ H Q → t σ H Q) : PI X tg e t' := ⟨fun pins s σ H Q I q => h.run pins s σ H Q I (w σ H Q q)⟩
section
variable {X : Cx} {ad : Nat → Addr} {lt : Bool} {E : Wx} {C : Cn} {a b e : Expr} {pos p : Pos} {m : ME} {tg : Expr} {x : Str} {k : Sk}
/-- the head's values -/
theorem rd_src {σ : L2.St} {H : Hp} {Q : It → Hp → Prop} {Q1 : List V → Hp → Prop} (h : rdI (rc X ad) lt E (srcF C k m) σ H Q)
    (hq : ∀ (Φ : Fr) (δ : Ds) (vs : List V) (H1 : Hp) (ss ds : List D), Φ.R = rc X ad → Rl Φ X0 δ σ H1 → Reps (rc X ad) (gG Φ X0 δ σ H1) ss vs → srcD k ss = some ds → (∀ J, Wks (rc X ad) (gG Φ X0 δ σ H1) J ds → Q J H1) → Q1 vs H1) :
    rdA (rc X ad) lt E (evL C m) σ H Q1 := by
  obtain ⟨Φ, δ, e1, e2, R0, p⟩ := h
  refine ⟨Φ, δ, e1, e2, R0, ?_⟩
  unfold srcF at p
  cases hl : evL C m δ with
  | bad => simp only [hl] at p; exact p
  | ex c δ1 => simp only [hl] at p; exact p
  | ok rs δ1 =>
    simp only [hl, Oc.bind] at p
    intro vs H1 R1 g1 v1
    cases hd : looks rs δ1 with
    | none => simp only [hd] at p; exact p.elim
    | some ss =>
      simp only [hd] at p
      cases hs : srcD k ss with
      | none => simp only [hs] at p; exact p.elim
      | some ds =>
        simp only [hs] at p
        split at p
        · exact p.elim
        · rename_i hn
          have hr := v1.reps R1 (S := Hd Φ X0 δ1 σ) rs (fun a h => ⟨h, lends_no (by simpa using hn) a⟩) (fun r h => h) hd
          exact hq Φ δ1 vs H1 ss ds e1 R1 (e1 ▸ hr) hs fun J hJ => p J H1 R1 g1 (by rw [e1]; exact hJ)
theorem stars_no {es : List Expr} (h : es.all (fun e => !isStar e) = true) (env : Env) : starEach es env = es.map fun e => (false, eval e env) := by
  induction es with
  | nil => rfl
  | cons e es ih =>
    rw [List.all_cons, Bool.and_eq_true] at h
    rw [star_no (by simpa using h.1), ih h.2] <;> rfl
theorem small62_of {i : Int} (h : small62 i = true) : -(2 ^ 62) ≤ i ∧ i < 2 ^ 62 := by
  simp only [small62, Bool.and_eq_true, decide_eq_true_eq] at h
  exact h
theorem i_rng1 (hg : Gl X "range") (hm : X.mg "range" = none) (ha : PA X [a] (rdA (rc X ad) lt E (evL C m))) (hs : isStar a = false) : PI X tg (.Call (.Name "range" p) [a] [] pos) (rdI (rc X ad) lt E (srcF C .rng1 m)) := by
  refine PI.imp (pi_range1 hg hm ha (star_no hs [] X.env)) fun σ H Q h => ?_
  refine rd_src h fun Φ δ vs H1 ss ds e1 R1 hr hd hJ => ?_
  unfold srcD at hd
  simp only at hd
  split at hd
  · split at hd
    · rename_i j hz
      cases hd
      obtain ⟨v, r, rfl, h1, h2⟩ := hr.inv
      cases h2.inv0
      obtain ⟨z1, z2⟩ := small62_of hz
      exact ⟨j, by rw [Rep.int_iff.mp h1], z1, z2, hJ _ wks_rng⟩
    · cases hd
  · cases hd
theorem i_rng2 (hg : Gl X "range") (hm : X.mg "range" = none) (ha : PA X [a, b] (rdA (rc X ad) lt E (evL C m))) (hs : isStar a = false) (hs2 : isStar b = false) : PI X tg (.Call (.Name "range" p) [a, b] [] pos) (rdI (rc X ad) lt E (srcF C .rng2 m)) := by
  refine PI.imp (pi_range2 hg hm ha (by rw [star_no hs, star_no hs2] <;> rfl) (star_no hs2 [] X.env)) fun σ H Q h => ?_
  refine rd_src h fun Φ δ vs H1 ss ds e1 R1 hr hd hJ => ?_
  unfold srcD at hd
  simp only at hd
  split at hd
  · split at hd
    · rename_i i j hz
      rw [Bool.and_eq_true] at hz
      cases hd
      obtain ⟨v, r, rfl, h1, h2⟩ := hr.inv
      obtain ⟨v', r', rfl, h3, h4⟩ := h2.inv
      cases h4.inv0
      obtain ⟨z1, z2⟩ := small62_of hz.1
      obtain ⟨z3, z4⟩ := small62_of hz.2
      exact ⟨i, j, by rw [Rep.int_iff.mp h1, Rep.int_iff.mp h3], ⟨z1, z2, z3, z4⟩, hJ _ wks_rng⟩
    · cases hd
  · cases hd
theorem gsqL {K : PySem.W.Frag} {S : Addr → Prop} {H : Hp} {a : Addr} {vs : List V} (h : SqL K (hid H S) a vs) : SqL K H a vs := (hid_le _ _).sqL h
theorem i_zip {elts : List Expr} {kk : Nat} {tpos : Pos} (hg : Gl X "zip") (hm : X.mg "zip" = none) (ha : PA X [a, b] (rdA (rc X ad) lt E (evL C m))) (hs : isStar a = false) (hs2 : isStar b = false) :
    PI X (.Tuple elts kk tpos) (.Call (.Name "zip" p) [a, b] [] pos) (rdI (rc X ad) lt E (srcF C .zip m)) := by
  refine PI.imp (pi_zipA hg hm ha (by rw [star_no hs] <;> rfl) (back_any pos X.env (by simp [hs2]))) fun σ H Q h => ?_
  refine rd_src h fun Φ δ vs H1 ss ds e1 R1 hr hd hJ => ?_
  unfold srcD at hd
  simp only at hd
  split at hd
  · cases hd
    obtain ⟨v, r, rfl, h1, h2⟩ := hr.inv
    obtain ⟨v', r', rfl, h3, h4⟩ := h2.inv
    cases h4.inv0
    rw [Rep.lst_iff] at h1 h3
    obtain ⟨p1, us, rfl, s1, r1⟩ := h1
    obtain ⟨p2, ws, rfl, s2, r2⟩ := h3
    exact ⟨p1, p2, us, ws, rfl, .inl ⟨gsqL s1, gsqL s2, hJ _ (wks_zip s1 r1 s2 r2)⟩⟩
  · cases hd
    obtain ⟨v, r, rfl, h1, h2⟩ := hr.inv
    obtain ⟨v', r', rfl, h3, h4⟩ := h2.inv
    cases h4.inv0
    rw [Rep.tup_iff] at h1 h3
    obtain ⟨p1, us, rfl, s1, r1⟩ := h1
    obtain ⟨p2, ws, rfl, s2, r2⟩ := h3
    exact ⟨p1, p2, us, ws, rfl, .inr ⟨gT s1, gT s2, hJ _ (wks_zipT s1 r1 s2 r2)⟩⟩
  · cases hd
theorem i_enum {elts : List Expr} {kk : Nat} {tpos : Pos} (hg : Gl X "enumerate") (hm : X.mg "enumerate" = none) (ha : PA X [a] (rdA (rc X ad) lt E (evL C m))) (hs : isStar a = false) :
    PI X (.Tuple elts kk tpos) (.Call (.Name "enumerate" p) [a] [] pos) (rdI (rc X ad) lt E (srcF C .enum m)) := by
  refine PI.imp (pi_enum hg hm ha (star_no hs [] X.env)) fun σ H Q h => ?_
  refine rd_src h fun Φ δ vs H1 ss ds e1 R1 hr hd hJ => ?_
  unfold srcD at hd
  simp only at hd
  split at hd
  · cases hd
    obtain ⟨v, r, rfl, h1, h2⟩ := hr.inv
    cases h2.inv0
    rw [Rep.lst_iff] at h1
    obtain ⟨p1, us, rfl, s1, r1⟩ := h1
    exact ⟨p1, us, rfl, gsqL s1, hJ _ (wks_enum s1 r1)⟩
  · cases hd
/-- a list or a tuple -/
theorem pi_seq {l : Expr} {tl : TE} (hl : PE X l tl) : PI X tg l (fun σ H R => tl σ H fun x H1 => ∃ a, x = .ref a ∧ (((∃ xs, SqL X.K H1 a xs) ∧ R (Itl X.K a) H1) ∨ ((∃ xs, SqT X.K H1 a xs) ∧ R (Itt X.K a) H1))) := by
  refine ⟨fun pins s σ H R I h => ?_⟩
  refine thn (hl.run pins s σ H _ I h) fun v s1 ⟨x, H1, I1, r1, q1⟩ => ?_
  obtain ⟨a, e, ⟨⟨xs, hq⟩, q⟩ | ⟨⟨xs, hq⟩, q⟩⟩ := q1
  · subst e
    cases r1
    obtain ⟨its, rv, p, hz⟩ := I1.list hq
    refine wpAny_pyIter_list p.isList ?_
    refine ⟨s1.heap.objs.size, [s1.heap.objs.size], _, _, H1, rfl, I1.kept (t' := s1.toks) fun b o e => Heap.get?_push_of_some _ e, turn_list a _, ⟨_, Heap.get?_push_size _ rfl, rfl, rfl⟩, fun b hb => ?_, q⟩
    have e : b = s1.heap.objs.size := by simpa using hb
    subst e
    exact I1.fpOk (Nat.le_refl _) (I1.hok.fresh (Nat.le_refl _))
  · subst e
    cases r1
    obtain ⟨its, rv, p, hz⟩ := I1.tuple hq
    refine wpAny_pyIter_tuple (show s1.heap.IsTuple a its.toArray from p) ?_
    refine ⟨s1.heap.objs.size, [s1.heap.objs.size], _, _, H1, rfl, I1.kept (t' := s1.toks) fun b o e => Heap.get?_push_of_some _ e, turn_tuple a _, ⟨_, Heap.get?_push_size _ rfl, rfl, rfl⟩, fun b hb => ?_, q⟩
    have e : b = s1.heap.objs.size := by simpa using hb
    subst e
    exact I1.fpOk (Nat.le_refl _) (I1.hok.fresh (Nat.le_refl _))
theorem i_each (hlt : C.lt = lt) (he : PE X e (rdE (rc X ad) lt E (evE C m))) : PI X tg e (rdI (rc X ad) lt E (srcF C .each (.cons m .nil))) := by
  refine PI.imp (pi_seq he) fun σ H Q h => ?_
  obtain ⟨Φ, δ, e1, e2, R0, p⟩ := h
  refine ⟨Φ, δ, e1, e2, R0, ?_⟩
  unfold srcF at p
  simp only [evL] at p
  cases hf : evE C m δ with
  | bad => simp only [hf] at p; exact p
  | ex c δ1 => simp only [hf] at p; exact p
  | ok r δ1 =>
    simp only [hf, Oc.bind] at p
    intro v H1 ok
    obtain ⟨R1, g1, v1⟩ := ok.rl
    have hz : froz C.lt r δ1 = froz C.lt r.seen δ1 := by cases r <;> rfl
    rw [hz] at p
    cases hq : froz C.lt r.seen δ1 with
    | bad => simp only [hq] at p; exact p.elim
    | ex c δ2 => simp only [hq] at p; exact p.elim
    | ok d δ2 =>
      obtain ⟨R2, g2, v2⟩ := v1.froz (hlt ▸ e2) R1 hq
      simp only [hq, looks, look] at p
      cases d with
      | lst ds =>
        simp only [srcD, lends] at p
        rw [Rep.lst_iff] at v2
        obtain ⟨a, vs, rfl, s1, r1⟩ := v2
        refine ⟨a, rfl, .inl ⟨⟨vs, ?_⟩, ?_⟩⟩
        · have := gsqL s1
          rw [e1] at this
          exact this
        · have hw := wks_list s1 r1
          rw [show Φ.R.K = X.K by rw [e1]; rfl] at hw
          exact p _ H1 R2 (g1.trans g2) hw
      | tup ds =>
        simp only [srcD, lends] at p
        rw [Rep.tup_iff] at v2
        obtain ⟨a, vs, rfl, s1, r1⟩ := v2
        refine ⟨a, rfl, .inr ⟨⟨vs, ?_⟩, ?_⟩⟩
        · have := gT s1
          rw [e1] at this
          exact this
        · have hw := wks_tup s1 r1
          rw [show Φ.R.K = X.K by rw [e1]; rfl] at hw
          exact p _ H1 R2 (g1.trans g2) hw
      | _ => simp only [srcD] at p; exact p.elim
end
end EL

set_option Elab.async false
set_option linter.all false
set_option maxRecDepth 100000
set_option maxHeartbeats 1000000
/-! targets, comprehensions -/
namespace EL
open PySem PySem.Spec PyProof.Rows L2 RZ
def gsOf : List Nat → TGs
  | [] => gNil
  | i :: is => gCons (gName i) (gsOf is)
def gOf (K : PySem.W.Frag) : List Nat → TG
  | [i] => gName i
  | tg => gTup K tg.length (gsOf tg)
section
variable {Φ : Fr} {δ : Ds} {σ : L2.St} {H : Hp} {lt : Bool}
theorem sets_ok : ∀ {tg : List Nat} {ds : List D} {vs : List V} {δ : Ds} {σ : L2.St} {Q : L2.St → Hp → Prop}, Rl Φ X0 δ σ H → Reps Φ.R (gG Φ X0 δ σ H) ds vs → ds.length = tg.length → (∀ i ∈ tg, Φ.L = none ∨ i ≠ 0) →
    (∀ σ', Rl Φ X0 (setAll tg ds δ) σ' H → Gr (gG Φ X0 δ σ H) (gG Φ X0 (setAll tg ds δ) σ' H) → (∀ i, i ∉ tg → σ'[i]? = σ[i]?) → σ'.length = σ.length → Q σ' H) → gsOf tg vs σ H Q
  | [], [], vs, δ, σ, Q, R, hr, _, _, q => by
    cases hr.inv0
    exact ⟨rfl, q σ (by simpa only [setAll] using R) (by simp only [setAll]; exact Gr.refl _) (fun i _ => rfl) rfl⟩
  | [], _ :: _, _, _, _, _, _, _, h, _, _ => by simp at h
  | _ :: _, [], _, _, _, _, _, _, h, _, _ => by simp at h
  | i :: tg, d :: ds, vs, δ, σ, Q, R, hr, h, hl, q => by
    obtain ⟨v, r, rfl, h1, h2⟩ := hr.inv
    obtain ⟨R1, g1⟩ := R.storeIm (i := i) (hl i List.mem_cons_self) h1
    refine ⟨v, r, rfl, ?_⟩
    refine sets_ok R1 (h2.mono g1) (by simpa using h) (fun j hj => hl j (List.mem_cons_of_mem _ hj)) fun σ' R2 g2 ho hlen => ?_
    refine q σ' (by simpa only [setAll] using R2) (by simp only [setAll]; exact g1.trans g2) (fun j hj => ?_) (by rw [hlen, List.length_set])
    rw [ho j (fun z => hj (List.mem_cons_of_mem _ z)), List.getElem?_set_ne]
    rintro rfl
    exact hj List.mem_cons_self
theorem bind_ok {tg : List Nat} {d : D} {δ1 : Ds} {v : V} {Q : L2.St → Hp → Prop} (hlt : Φ.L.isSome = lt) (R : Rl Φ X0 δ σ H) (hr : Rep Φ.R (gG Φ X0 δ σ H) d v) (hb : bindT lt tg d δ = some δ1)
    (q : ∀ σ', Rl Φ X0 δ1 σ' H → Gr (gG Φ X0 δ σ H) (gG Φ X0 δ1 σ' H) → (∀ i, i ∉ tg → σ'[i]? = σ[i]?) → σ'.length = σ.length → Q σ' H) : gOf Φ.R.K tg v σ H Q := by
  unfold bindT at hb
  cases hc : ((lt && tg.contains 0) || !(tg.all fun i => decide (i < δ.length))) with
  | true => rw [hc] at hb; simp at hb
  | false =>
    rw [hc] at hb
    simp only [Bool.false_eq_true, if_false] at hb
    have hn : ((lt && tg.contains 0) || !(tg.all fun i => decide (i < δ.length))) = false := hc
    rw [Bool.or_eq_false_iff] at hn
    have hl : ∀ i ∈ tg, Φ.L = none ∨ i ≠ 0 := fun i hi => by
      refine hl_of hlt ?_
      cases hlt' : lt with
      | false => rfl
      | true =>
        rw [hlt', Bool.true_and] at hn
        have : i ≠ 0 := by
          rintro rfl
          have h2 := hn.1
          rw [List.contains_eq_mem, decide_eq_false_iff_not] at h2
          exact h2 hi
        simpa using this
    have go : ∀ ds, d = .tup ds → ds.length = tg.length → δ1 = setAll tg ds δ → gTup Φ.R.K tg.length (gsOf tg) v σ H Q := fun ds ed hlen e1 => by
      subst ed e1
      rw [Rep.tup_iff] at hr
      obtain ⟨a, vs, rfl, s1, r1⟩ := hr
      exact ⟨a, vs, rfl, gT s1, by rw [← r1.length]; exact hlen, sets_ok R r1 hlen hl q⟩
    have many : (∀ i, tg ≠ [i]) → bindM tg d δ = some δ1 → gOf Φ.R.K tg v σ H Q := fun h hb => by
      unfold bindM at hb
      split at hb
      · split at hb
        · rename_i hlen
          have := go _ rfl (by simpa using hlen) (Option.some.inj hb).symm
          unfold gOf
          split
          · exact absurd rfl (h _)
          · exact this
        · cases hb
      · cases hb
    by_cases h1 : ∃ i, tg = [i]
    · obtain ⟨i, rfl⟩ := h1
      cases hb
      obtain ⟨R1, g1⟩ := R.storeIm (i := i) (hl i (by simp)) hr
      refine q _ R1 g1 (fun j hj => ?_) (by rw [List.length_set])
      rw [List.getElem?_set_ne]
      rintro rfl
      exact hj (by simp)
    · refine many (fun i e => h1 ⟨i, e⟩) ?_
      revert hb
      split
      · exact fun _ => absurd ⟨_, rfl⟩ h1
      · exact id
end
/-! ### slots wiped and put back -/
theorem wipe_in {σ : L2.St} {i : Nat} : ∀ {vs : List Nat}, i ∈ vs → i < σ.length → (wipe σ vs)[i]? = some none
  | [], h, _ => by cases h
  | v :: vs, h, hl => by
    unfold wipe
    by_cases e : v = i
    · subst e
      rw [List.getElem?_set_self (by rw [wipe_length]; exact hl)]
    · rw [List.getElem?_set_ne e]
      rcases List.mem_cons.mp h with h | h
      · exact absurd h.symm e
      · exact wipe_in h hl
theorem wipe_eq {σ σ' : L2.St} {vs : List Nat} (hl : σ'.length = σ.length) (h : ∀ i, i ∉ vs → σ'[i]? = σ[i]?) : wipe σ' vs = wipe σ vs := by
  apply List.ext_getElem?
  intro i
  by_cases hi : i ∈ vs
  · by_cases hlt : i < σ.length
    · rw [wipe_in hi hlt, wipe_in hi (by rw [hl]; exact hlt)]
    · rw [List.getElem?_eq_none (by rw [wipe_length, hl]; omega), List.getElem?_eq_none (by rw [wipe_length]; omega)]
  · rw [wipe_out hi, wipe_out hi, h i hi]
theorem wipeD_length (δ : Ds) : ∀ vs : List Nat, (wipeD δ vs).length = δ.length
  | [] => rfl
  | v :: vs => by unfold wipeD; rw [List.length_set, wipeD_length δ vs]
theorem wipeD_out {δ : Ds} {i : Nat} : ∀ {vs : List Nat}, i ∉ vs → (wipeD δ vs)[i]? = δ[i]?
  | [], _ => rfl
  | v :: vs, h => by
    unfold wipeD
    rw [List.getElem?_set_ne (fun e => h (by rw [e]; exact List.mem_cons_self)), wipeD_out fun z => h (List.mem_cons_of_mem _ z)]
theorem wipeD_in {δ : Ds} {i : Nat} : ∀ {vs : List Nat}, i ∈ vs → i < δ.length → (wipeD δ vs)[i]? = some .no
  | [], h, _ => by cases h
  | v :: vs, h, hl => by
    unfold wipeD
    by_cases e : v = i
    · subst e
      rw [List.getElem?_set_self (by rw [wipeD_length]; exact hl)]
    · rw [List.getElem?_set_ne e]
      rcases List.mem_cons.mp h with h | h
      · exact absurd h.symm e
      · exact wipeD_in h hl
theorem restore_length (δ0 δ : Ds) : ∀ vs : List Nat, (restore δ0 δ vs).length = δ.length
  | [] => rfl
  | v :: vs => by unfold restore; rw [List.length_set, restore_length δ0 δ vs]
theorem restore_out {δ0 δ : Ds} {i : Nat} : ∀ {vs : List Nat}, i ∉ vs → (restore δ0 δ vs)[i]? = δ[i]?
  | [], _ => rfl
  | v :: vs, h => by
    unfold restore
    rw [List.getElem?_set_ne (fun e => h (by rw [e]; exact List.mem_cons_self)), restore_out fun z => h (List.mem_cons_of_mem _ z)]
theorem restore_in {δ0 δ : Ds} {i : Nat} {s : Sl} (e0 : δ0[i]? = some s) : ∀ {vs : List Nat}, i ∈ vs → i < δ.length → (restore δ0 δ vs)[i]? = some s
  | [], h, _ => by cases h
  | v :: vs, h, hl => by
    unfold restore
    by_cases e : v = i
    · subst e
      rw [List.getElem?_set_self (by rw [restore_length]; exact hl), e0]
    · rw [List.getElem?_set_ne e]
      rcases List.mem_cons.mp h with h | h
      · exact absurd h.symm e
      · exact restore_in e0 h hl
theorem noOwn_at {δ : Ds} {vs : List Nat} (h : noOwn δ vs = true) {i : Nat} (hi : i ∈ vs) : ∃ s, δ[i]? = some s ∧ ∀ d, s ≠ .ow d := by
  have := List.all_eq_true.mp h i hi
  split at this
  · cases this
  · rename_i s q hn
    exact ⟨s, hn, fun d e => q d e⟩
  · cases this
theorem hid_congr {H : Hp} {S S' : Addr → Prop} (h : ∀ a, S a ↔ S' a) : hid H S = hid H S' := by
  have : S = S' := funext fun a => propext (h a)
  rw [this]
section
variable {Φ : Fr} {X : Addr → Prop} {δ : Ds} {σ : L2.St} {H : Hp}
theorem own_wipe {vs : List Nat} (hn : noOwn δ vs = true) (i : Nat) (a : Addr) : OwnAt (wipeD δ vs) (wipe σ vs) i a ↔ OwnAt δ σ i a := by
  by_cases hi : i ∈ vs
  · obtain ⟨s, e, n⟩ := noOwn_at hn hi
    have hlt := (List.getElem?_eq_some_iff.mp e).1
    constructor
    · rintro ⟨⟨d, h1⟩, _⟩
      rw [wipeD_in hi hlt] at h1
      cases h1
    · rintro ⟨⟨d, h1⟩, _⟩
      rw [e] at h1
      cases h1
      exact absurd rfl (n d)
  · unfold OwnAt
    rw [wipeD_out hi, wipe_out hi]
theorem Rl.congr {δ' : Ds} {σ' : L2.St} (r : Rl Φ X δ σ H) (hl : δ'.length = σ'.length) (ho : ∀ i a, OwnAt δ' σ' i a ↔ OwnAt δ σ i a)
    (him : ∀ (i : Nat) (d : D), δ'[i]? = some (.im d) → ∃ v, σ'[i]? = some (some v) ∧ Rep Φ.R (gG Φ X δ σ H) d v)
    (how : ∀ (i : Nat) (d : D), δ'[i]? = some (.ow d) → δ[i]? = some (.ow d) ∧ σ'[i]? = σ[i]?) : Rl Φ X δ' σ' H ∧ gG Φ X δ' σ' H = gG Φ X δ σ H := by
  have ow_ : ∀ a, Own δ' σ' a ↔ Own δ σ a := fun a => ⟨fun ⟨i, h⟩ => ⟨i, (ho i a).mp h⟩, fun ⟨i, h⟩ => ⟨i, (ho i a).mpr h⟩⟩
  have eg : gG Φ X δ' σ' H = gG Φ X δ σ H := hid_congr fun a => by
    show (_ ∨ _ ∨ _) ↔ (_ ∨ _ ∨ _)
    rw [ow_ a]
  refine ⟨⟨hl, r.fix, fun i j a h1 h2 => r.inj i j a ((ho i a).mp h1) ((ho j a).mp h2), fun a h => r.own a ((ow_ a).mp h), fun i d e => ?_, fun i d e => ?_, fun a e => (ho 0 a).mpr (r.lent a e), r.bd, fun a h => ?_, r.bf⟩, eg⟩
  · rw [eg]; exact him i d e
  · obtain ⟨h1, h2⟩ := how i d e
    obtain ⟨a, e1, e2⟩ := r.ow i d h1
    exact ⟨a, by rw [h2]; exact e1, by rw [eg]; exact e2⟩
  · obtain ⟨h1, h2, h3, h4⟩ := r.xd a h
    exact ⟨h1, h2, h3, fun z => h4 ((ow_ a).mp z)⟩
theorem Rl.wipe {vs : List Nat} (r : Rl Φ X δ σ H) (hn : noOwn δ vs = true) : Rl Φ X (wipeD δ vs) (L2.wipe σ vs) H ∧ gG Φ X (wipeD δ vs) (L2.wipe σ vs) H = gG Φ X δ σ H := by
  refine r.congr (by rw [wipeD_length, wipe_length]; exact r.len) (own_wipe hn) (fun i d e => ?_) fun i d e => ?_
  · by_cases hi : i ∈ vs
    · obtain ⟨s, e', n⟩ := noOwn_at hn hi
      rw [wipeD_in hi (List.getElem?_eq_some_iff.mp e').1] at e
      cases e
    · rw [wipeD_out hi] at e
      rw [wipe_out hi]
      exact r.im i d e
  · by_cases hi : i ∈ vs
    · obtain ⟨s, e', n⟩ := noOwn_at hn hi
      rw [wipeD_in hi (List.getElem?_eq_some_iff.mp e').1] at e
      cases e
    · rw [wipeD_out hi] at e
      exact ⟨e, wipe_out hi⟩
/-- .. and put back -/
theorem Rl.unwipe {vs : List Nat} {δ0 : Ds} {G : Hp} (r : Rl Φ X δ (L2.wipe σ vs) H) (hn : noOwn δ0 vs = true) (hl : δ0.length = δ.length) (g : Gr G (gG Φ X δ (L2.wipe σ vs) H)) (h0 : ∀ (i : Nat) (d : D), δ0[i]? = some (.im d) → ∃ v, σ[i]? = some (some v) ∧ Rep Φ.R G d v) :
    Rl Φ X (restore δ0 δ vs) σ H ∧ gG Φ X (restore δ0 δ vs) σ H = gG Φ X δ (L2.wipe σ vs) H := by
  have hlen : δ.length = σ.length := by rw [r.len, wipe_length]
  have atin : ∀ i, i ∈ vs → ∃ s, δ0[i]? = some s ∧ (∀ d, s ≠ .ow d) ∧ (restore δ0 δ vs)[i]? = some s ∧ (L2.wipe σ vs)[i]? = some none := fun i hi => by
    obtain ⟨s, e, n⟩ := noOwn_at hn hi
    have hlt := (List.getElem?_eq_some_iff.mp e).1
    exact ⟨s, e, n, restore_in e hi (by omega), wipe_in hi (by omega)⟩
  refine r.congr (by rw [restore_length]; exact hlen) (fun i a => ?_) (fun i d e => ?_) fun i d e => ?_
  · by_cases hi : i ∈ vs
    · obtain ⟨s, e, n, e1, e2⟩ := atin i hi
      constructor
      · rintro ⟨⟨d, h1⟩, _⟩
        rw [e1] at h1
        cases h1
        exact absurd rfl (n d)
      · rintro ⟨_, h2⟩
        rw [e2] at h2
        cases h2
    · unfold OwnAt
      rw [restore_out hi, wipe_out hi]
  · by_cases hi : i ∈ vs
    · obtain ⟨s, e', n, e1, e2⟩ := atin i hi
      rw [e1] at e
      cases e
      obtain ⟨v, q1, q2⟩ := h0 i d e'
      exact ⟨v, q1, q2.mono g⟩
    · rw [restore_out hi] at e
      obtain ⟨v, q1, q2⟩ := r.im i d e
      rw [wipe_out hi] at q1
      exact ⟨v, q1, q2⟩
  · by_cases hi : i ∈ vs
    · obtain ⟨s, e', n, e1, e2⟩ := atin i hi
      rw [e1] at e
      cases e
      exact absurd rfl (n d)
    · rw [restore_out hi] at e
      exact ⟨e, (wipe_out hi).symm⟩
end
/-! ### the list that grows is out of sight -/
noncomputable def Fr.inn (Φ : Fr) (D : Addr) (o : HO) : Fr := ⟨Φ.R, upd Φ.F D o, fun b => Φ.B b ∨ b = D, Φ.L⟩
section
variable {Φ : Fr} {δ : Ds} {σ : L2.St} {H : Hp} {D : Addr} {o : HO}
theorem inn_gG : gG (Φ.inn D o) X0 δ σ H = gG Φ (X1 D) δ σ H := hid_congr fun a => by
  show (False ∨ (Φ.B a ∨ a = D) ∨ Own δ σ a) ↔ (a = D ∨ Φ.B a ∨ Own δ σ a)
  constructor
  · rintro (z | (z | z) | z)
    · exact z.elim
    · exact .inr (.inl z)
    · exact .inl z
    · exact .inr (.inr z)
  · rintro (z | z | z)
    · exact .inr (.inl (.inr z))
    · exact .inr (.inl (.inl z))
    · exact .inr (.inr z)
theorem Rl.inn (r : Rl Φ (X1 D) δ σ H) (ho : H D = some o) : Rl (Φ.inn D o) X0 δ σ H := by
  obtain ⟨_, d2, d3, d4⟩ := r.xd D rfl
  refine ⟨r.len, fun a u e => ?_, r.inj, fun a h => ?_, fun i d e => ?_, fun i d e => ?_, r.lent, fun b h => ?_, fun a h => h.elim, fun b h e => ?_⟩
  · by_cases z : a = D
    · subst z
      have e : upd Φ.F a o a = some u := e
      rw [upd_same] at e
      cases e
      exact ho
    · exact r.fix a u (by have e : upd Φ.F D o a = some u := e; rwa [upd_ne z] at e)
  · show upd Φ.F D o a = none
    rw [upd_ne (fun z => d4 (by rw [← z]; exact h))]
    exact r.own a h
  · rw [inn_gG]; exact r.im i d e
  · rw [inn_gG]; exact r.ow i d e
  · rcases h with h | h
    · exact r.bd b h
    · rw [h]; exact ⟨o, ho⟩
  · have e : upd Φ.F D o b = none := e
    by_cases z : b = D
    · subst z
      rw [upd_same] at e; cases e
    · rw [upd_ne z] at e
      rcases h with h | h
      · exact r.bf b h e
      · exact absurd h z
theorem Rl.out (r : Rl (Φ.inn D o) X0 δ σ H) (hF : Φ.F D = none) (hB : ¬ Φ.B D) : Rl Φ (X1 D) δ σ H ∧ H D = some o := by
  have hD : H D = some o := r.fix D o upd_same
  have nD : ¬ Own δ σ D := fun z => by
    have : upd Φ.F D o D = none := r.own D z
    rw [upd_same] at this; cases this
  refine ⟨⟨r.len, fun a u e => ?_, r.inj, fun a h => ?_, fun i d e => ?_, fun i d e => ?_, r.lent, fun b h => r.bd b (.inl h), fun a h => ?_, fun b h e => ?_⟩, hD⟩
  · refine r.fix a u ?_
    show upd Φ.F D o a = some u
    rw [upd_ne]
    · exact e
    · rintro rfl
      rw [hF] at e; cases e
  · have e : upd Φ.F D o a = none := r.own a h
    rwa [upd_ne (fun z => nD (by rw [← z]; exact h))] at e
  · rw [← inn_gG (o := o)]; exact r.im i d e
  · rw [← inn_gG (o := o)]; exact r.ow i d e
  · have h : a = D := h
    subst h
    exact ⟨⟨o, hD⟩, hF, hB, nD⟩
  · refine r.bf b (.inl h) ?_
    show upd Φ.F D o b = none
    rw [upd_ne (fun z => hB (by rw [← z]; exact h))]
    exact e
theorem Rl.upX {o' : HO} (r : Rl Φ (X1 D) δ σ H) : Rl Φ (X1 D) δ σ (upd H D o') ∧ gG Φ (X1 D) δ σ (upd H D o') = gG Φ (X1 D) δ σ H := by
  obtain ⟨d1, d2, d3, d4⟩ := r.xd D rfl
  have eg : gG Φ (X1 D) δ σ (upd H D o') = gG Φ (X1 D) δ σ H := by
    funext b
    show hid _ _ b = hid _ _ b
    by_cases s : Hd Φ (X1 D) δ σ b
    · rw [hid_in s, hid_in s]
    · rw [hid_out s, hid_out s, upd_ne]
      rintro rfl
      exact s (.inl rfl)
  refine ⟨⟨r.len, fun a u e => ?_, r.inj, r.own, fun i d e => ?_, fun i d e => ?_, r.lent, fun b h => ?_, fun a h => ?_, r.bf⟩, eg⟩
  · rw [upd_ne]
    · exact r.fix a u e
    · rintro rfl
      rw [d2] at e; cases e
  · rw [eg]; exact r.im i d e
  · rw [eg]
    obtain ⟨a, e1, u, e2, e3⟩ := r.ow i d e
    refine ⟨a, e1, u, ?_, e3⟩
    rw [upd_ne]
    · exact e2
    · rintro rfl
      exact d4 ⟨i, ⟨d, e⟩, e1⟩
  · by_cases z : b = D
    · subst z; exact ⟨o', upd_same⟩
    · rw [upd_ne z]; exact r.bd b h
  · have h : a = D := h
    subst h
    exact ⟨⟨o', upd_same⟩, d2, d3, d4⟩
end
end EL

set_option Elab.async false
set_option linter.all false
set_option maxRecDepth 100000
set_option maxHeartbeats 1000000
/-! comprehensions -/
namespace EL
open PySem PySem.Spec PyProof.Rows L2 RZ
abbrev Wf : Wx := fun _ _ _ => False
/-- the test of a comprehension -/
def cnd (C : Cn) (t : Bool) (c : ME) : Option (Ds → Oc Rv) := if t then some (evE C c) else none
theorem ev_comp {C : Cn} {vs : List Nat} {k : Sk} {src c e : ME} {tg : List Nat} {t : Bool} : evE C (.comp vs k src tg t c e) = fun δ => (srcF C k src δ).bind fun ds δ1 =>
    if !noOwn δ1 vs || (C.lt && vs.contains 0) || !(tg.all vs.contains) then .bad else (compL C.lt vs tg (cnd C t c) (evE C e) ds (wipeD δ1 vs) []).bind fun acc δ2 => .ok (.fr (.lst acc)) (restore δ1 δ2 vs) := by
  funext δ
  simp only [evE, srcF]
  cases evL C src δ with
  | bad => rfl
  | ex c δ1 => rfl
  | ok rs δ1 =>
    simp only [Oc.bind]
    cases looks rs δ1 with
    | none => rfl
    | some ss =>
      simp only
      cases srcD k ss with
      | none => rfl
      | some ds =>
        simp only
        cases lends rs δ1 with
        | true => rfl
        | false => rfl
section
variable {X : Cx} {ad : Nat → Addr} {lt : Bool} {E : Wx} {C : Cn} {σ : L2.St} {H : Hp} {Q : VK} {vs : List Nat} {k : Sk} {src c e : ME} {tg : List Nat} {t : Bool}
/-- the test's reading -/
def rdC (X : Cx) (ad : Nat → Addr) (lt : Bool) (C : Cn) (t : Bool) (c : ME) : TT := if t then rdT (rc X ad) lt Wf (evT (evE C c)) else tYes
/-- what holds at a turn -/
structure TurnOk (Φ : Fr) (Da : Addr) (σ : L2.St) (vs : List Nat) (G : Hp) (δ : Ds) (acc : List D) (H : Hp) : Prop where
  r : Rl Φ (X1 Da) δ (wipe σ vs) H
  g : Gr G (gG Φ (X1 Da) δ (wipe σ vs) H)
  at_ : ∃ ws, H Da = some (.lst ws) ∧ Reps Φ.R (gG Φ (X1 Da) δ (wipe σ vs) H) acc ws
theorem wipe_wipe (σ : L2.St) (vs : List Nat) : wipe (wipe σ vs) vs = wipe σ vs := wipe_eq (wipe_length σ vs) fun i hi => wipe_out hi
/-- behind a turn's code -/
theorem turn_back {Φ : Fr} {Da : Addr} {ws : List V} {σ σ2 : L2.St} {vs : List Nat} {G : Hp} {δ : Ds} {H : Hp} (hF : Φ.F Da = none) (hB : ¬ Φ.B Da) (R : Rl (Φ.inn Da (.lst ws)) X0 δ σ2 H) (hw : wipe σ2 vs = wipe σ vs) (hn : noOwn δ vs = true)
    (g : Gr G (gG (Φ.inn Da (.lst ws)) X0 δ σ2 H)) : Rl Φ (X1 Da) (wipeD δ vs) (wipe σ vs) H ∧ gG Φ (X1 Da) (wipeD δ vs) (wipe σ vs) H = gG (Φ.inn Da (.lst ws)) X0 δ σ2 H ∧ Gr G (gG Φ (X1 Da) (wipeD δ vs) (wipe σ vs) H) ∧ H Da = some (.lst ws) := by
  obtain ⟨R1, hD⟩ := R.out hF hB
  obtain ⟨R2, eg⟩ := R1.wipe hn
  rw [hw] at R2 eg
  have eg2 : gG Φ (X1 Da) (wipeD δ vs) (wipe σ vs) H = gG (Φ.inn Da (.lst ws)) X0 δ σ2 H := by rw [eg, inn_gG]
  exact ⟨R2, eg2, by rw [eg2]; exact g, hD⟩
theorem rd_comp (hlt : C.lt = lt) (h : rdE (rc X ad) lt E (evE C (.comp vs k src tg t c e)) σ H Q) :
    tLc (rdI (rc X ad) lt E (srcF C k src)) (gOf X.K tg) (rdC X ad lt C t c) (rdE (rc X ad) lt Wf (evE C e)) vs σ H Q := by
  obtain ⟨Φ, δ0, e1, e2, R0, p⟩ := h
  refine ⟨Φ, δ0, e1, e2, R0, ?_⟩
  rw [ev_comp] at p
  simp only at p
  cases hs : srcF C k src δ0 with
  | bad => rw [hs] at p; exact p
  | ex c δ1 => rw [hs] at p; exact p
  | ok ds δ1 =>
    rw [hs] at p
    simp only [Oc.bind] at p
    intro J H1 R1 g1 wk Da hDa
    cases hc : (!noOwn δ1 vs || (C.lt && vs.contains 0) || !(tg.all vs.contains)) with
    | true => rw [hc] at p; simp only [if_true] at p; exact p.elim
    | false =>
      rw [hc] at p
      simp only [Bool.false_eq_true, if_false] at p
      rw [Bool.or_eq_false_iff, Bool.or_eq_false_iff] at hc
      obtain ⟨⟨hc1, hc2⟩, hc3⟩ := hc
      have hno : noOwn δ1 vs = true := by simpa using hc1
      have htg : ∀ i ∈ tg, i ∈ vs := fun i hi => by
        have h3 : tg.all vs.contains = true := by simpa using hc3
        have := List.all_eq_true.mp h3 i hi
        simpa [List.contains_eq_mem] using this
      -- the start
      obtain ⟨T1, tg1⟩ := R1.temp (o := .lst []) hDa
      obtain ⟨dd1, dF, dB, dO⟩ := T1.xd Da rfl
      obtain ⟨T2, tg2⟩ := T1.wipe hno
      have G1 : Gr (gG Φ X0 δ1 σ H1) (gG Φ (X1 Da) (wipeD δ1 vs) (wipe σ vs) (upd H1 Da (.lst []))) := by rw [tg2]; exact tg1
      let P : Nat → Hp → Prop := fun i H' => i ≤ ds.length ∧ ∃ δ acc, TurnOk Φ Da σ vs (gG Φ X0 δ1 σ H1) δ acc H' ∧ δ.length = δ1.length ∧
        PostE Φ E σ (gG Φ X0 δ0 σ H) ((compL C.lt vs tg (cnd C t c) (evE C e) (ds.drop i) δ acc).bind fun acc δ2 => .ok (.fr (.lst acc)) (restore δ1 δ2 vs)) Q
      refine ⟨fun i m H => m = ds.length - i ∧ P i H, ⟨_, rfl, Nat.zero_le _, wipeD δ1 vs, [], ⟨T2, G1, [], upd_same, Reps.nil⟩, wipeD_length _ _, by rw [List.drop_zero]; exact p⟩, ?_⟩
      clear p
      rintro i m H2 ⟨rfl, hi, δ, acc, K, hlen, p⟩
      have gH : Gr (gG Φ X0 δ1 σ H1) H2 := K.g.trans (hid_le _ _)
      obtain ⟨w1, w2⟩ := wk H2 gH i
      obtain ⟨ws, hDa2, hacc⟩ := K.at_
      by_cases hlast : ds.length ≤ i
      · left
        refine ⟨w1 hlast, ?_⟩
        rw [List.drop_eq_nil_of_le hlast] at p
        simp only [compL, Oc.bind] at p
        obtain ⟨U1, U2⟩ := K.r.unwipe hno hlen.symm K.g fun i d e => R1.im i d e
        refine p _ H2 ⟨Da, rfl, U1, ?_, .lst ws, hDa2, ws, rfl, ?_⟩
        · rw [U2]; exact g1.trans K.g
        · rw [U2]; exact hacc
      · right
        obtain ⟨d, hd⟩ : ∃ d, ds[i]? = some d := ⟨_, List.getElem?_eq_getElem (by omega)⟩
        obtain ⟨w3, w4⟩ := w2 d hd
        refine ⟨w3, P (i + 1), fun H' hP => ⟨_, by omega, rfl, hP⟩, fun x H' hy => ?_⟩
        -- the item
        obtain ⟨K1, K2, K3, K4⟩ : Rl Φ (X1 Da) δ (wipe σ vs) H' ∧ Gr (gG Φ (X1 Da) δ (wipe σ vs) H2) (gG Φ (X1 Da) δ (wipe σ vs) H') ∧ Rep Φ.R (gG Φ (X1 Da) δ (wipe σ vs) H') d x ∧ H' Da = some (.lst ws) := by
          rcases w4 x H' hy with ⟨rfl, q⟩ | ⟨q0, es, us, rfl, q1, rfl, rfl, q2⟩
          · exact ⟨K.r, Gr.refl _, q.mono K.g, hDa2⟩
          · obtain ⟨A1, A2, A3⟩ := K.r.alloc (o := .tup us) q1
            refine ⟨A1, A2, Rep.tup_iff.mpr ⟨q0, us, rfl, .inl (.inl A3), q2.mono (K.g.trans A2)⟩, ?_⟩
            rw [upd_ne (ne_of_none hDa2 q1)]
            exact hDa2
        have I1 := K1.inn K4
        have hdrop : ds.drop i = d :: ds.drop (i + 1) := by
          obtain ⟨h1, h2⟩ := List.getElem?_eq_some_iff.mp hd
          rw [← h2, List.drop_eq_getElem_cons h1]
        rw [hdrop] at p
        simp only [compL] at p
        cases hb : bindT C.lt tg d δ with
        | none => rw [hb] at p; exact p.elim
        | some δa =>
          rw [hb] at p
          simp only at p
          have eK : Φ.R.K = X.K := by rw [e1]; rfl
          rw [← eK]
          refine bind_ok (Φ := Φ.inn Da (.lst ws)) (lt := C.lt) (by rw [hlt]; exact e2) I1 (by rw [inn_gG]; exact K3) hb fun σ2 R2 g2 off hlen2 => ?_
          have hw : wipe σ2 vs = wipe σ vs := by
            rw [← wipe_wipe σ vs]
            exact wipe_eq hlen2 fun j hj => off j fun z => hj (htg j z)
          have hlenE : ∀ {δ' : Ds} {H3 : Hp}, Rl (Φ.inn Da (.lst ws)) X0 δ' σ2 H3 → δ'.length = δ1.length := fun R => by
            rw [R.len, hlen2, wipe_length, ← R1.len]
          refine ⟨hw, ?_⟩
          have g2' : Gr (gG Φ (X1 Da) δ (wipe σ vs) H2) (gG (Φ.inn Da (.lst ws)) X0 δa σ2 H') := by
            rw [inn_gG] at g2
            exact K2.trans g2
          -- behind the test, where it holds
          have yes : ∀ (δ2 : Ds) (H3 : Hp), Rl (Φ.inn Da (.lst ws)) X0 δ2 σ2 H3 → Gr (gG Φ (X1 Da) δ (wipe σ vs) H2) (gG (Φ.inn Da (.lst ws)) X0 δ2 σ2 H3) →
              PostE Φ E σ (gG Φ X0 δ0 σ H) (Oc.bind (match evE C e δ2 with
                | .ok r δ3 => (match froz C.lt r δ3 with
                  | .ok y δ4 => if (decide (acc.length < sizeLine) && noOwn δ4 vs) = true then compL C.lt vs tg (cnd C t c) (evE C e) (ds.drop (i + 1)) (wipeD δ4 vs) (acc ++ [y]) else .bad
                  | _ => .bad)
                | _ => .bad) fun acc δ2 => .ok (.fr (.lst acc)) (restore δ1 δ2 vs)) Q →
              rdE (rc X ad) lt Wf (evE C e) σ2 H3 fun y H4 => ∃ acc, H4 Da = some (.lst acc) ∧ acc.length < sizeLine ∧ P (i + 1) (upd H4 Da (.lst (acc ++ [y]))) := fun δ2 H3 R3 g3 p => by
            refine ⟨Φ.inn Da (.lst ws), δ2, e1, e2, R3, ?_⟩
            cases hf : evE C e δ2 with
            | bad => rw [hf] at p; exact p
            | ex c δ3 => rw [hf] at p; exact p.elim
            | ok r δ3 =>
              rw [hf] at p
              intro y H4 ok
              obtain ⟨R4, g4, v4⟩ := ok.rl
              have hz : froz C.lt r δ3 = froz C.lt r.seen δ3 := by cases r <;> rfl
              simp only at p
              rw [hz] at p
              cases hq : froz C.lt r.seen δ3 with
              | bad => rw [hq] at p; exact p.elim
              | ex c δ4 => rw [hq] at p; exact p.elim
              | ok yd δ4 =>
                rw [hq] at p
                simp only at p
                obtain ⟨R5, g5, v5⟩ := v4.froz (by rw [hlt]; exact e2) R4 hq
                cases hc4 : (decide (acc.length < sizeLine) && noOwn δ4 vs) with
                | false => rw [hc4] at p; exact p.elim
                | true =>
                  rw [hc4] at p
                  simp only [if_true] at p
                  rw [Bool.and_eq_true] at hc4
                  obtain ⟨B1, B2, B3, B4⟩ := turn_back (σ := σ) (vs := vs) (G := gG Φ (X1 Da) δ (wipe σ vs) H2) dF dB R5 hw hc4.2 (g3.trans (g4.trans g5))
                  obtain ⟨C1, C2⟩ := B1.upX (o' := .lst (ws ++ [y]))
                  have hl := hacc.length
                  refine ⟨ws, B4, by rw [← hl]; exact of_decide_eq_true hc4.1, by omega, wipeD δ4 vs, acc ++ [yd], ⟨C1, by rw [C2]; exact K.g.trans B3, ws ++ [y], upd_same, ?_⟩, by rw [wipeD_length]; exact hlenE R5, p⟩
                  rw [C2]
                  refine (hacc.mono B3).append (.cons ?_ .nil)
                  rw [B2]
                  exact v5
          unfold rdC
          unfold cnd at p yes
          cases t with
          | false =>
            simp only [Bool.false_eq_true, if_false] at p yes ⊢
            exact yes δa H' R2 g2' p
          | true =>
            simp only [if_true] at p yes ⊢
            refine ⟨Φ.inn Da (.lst ws), δa, e1, e2, R2, ?_⟩
            unfold evT
            cases hf : evE C c δa with
            | bad => rw [hf] at p; exact p
            | ex c δ3 => rw [hf] at p; exact p.elim
            | ok r δ3 =>
              rw [hf] at p
              cases r with
              | im dd =>
                cases dd with
                | bl b =>
                  intro H3 R3 g3
                  cases b with
                  | true => exact yes δ3 H3 R3 (g2'.trans g3) p
                  | false =>
                    simp only at p
                    cases hc4 : noOwn δ3 vs with
                    | false => rw [hc4] at p; exact p.elim
                    | true =>
                      rw [hc4] at p
                      simp only [if_true] at p
                      obtain ⟨B1, B2, B3, B4⟩ := turn_back (σ := σ) (vs := vs) (G := gG Φ (X1 Da) δ (wipe σ vs) H2) dF dB R3 hw hc4 (g2'.trans g3)
                      exact ⟨by omega, wipeD δ3 vs, acc, ⟨B1, K.g.trans B3, ws, B4, hacc.mono B3⟩, by rw [wipeD_length]; exact hlenE R3, p⟩
                | _ => exact p.elim
              | _ => exact p.elim
end
end EL

set_option Elab.async false
set_option linter.all false
set_option maxRecDepth 100000
set_option maxHeartbeats 1000000
/-! statements -/
namespace EL
open PySem PySem.Spec PyProof.Rows L2 RZ
/-- what a statement leaves -/
def PostS (Φ : Fr) (E : Wx) (G0 : Hp) (f : Fl) (D : Ends) : Prop := match f with
  | .bad => False
  | .nx δ => ∀ σ H, Rl Φ X0 δ σ H → Gr G0 (gG Φ X0 δ σ H) → D.nx σ H
  | .bk δ => ∀ σ H, Rl Φ X0 δ σ H → Gr G0 (gG Φ X0 δ σ H) → D.bk σ H
  | .ct δ => ∀ σ H, Rl Φ X0 δ σ H → Gr G0 (gG Φ X0 δ σ H) → D.ct σ H
  | .rt r δ => ∀ σ v H, ResOk Φ σ G0 r δ v H → D.rt v H
  | .ex c δ => ∀ σ H, Rl Φ X0 δ σ H → E σ c H
theorem PostS.weak {Φ : Fr} {E : Wx} {G0 G1 : Hp} {f : Fl} {D : Ends} (g : Gr G0 G1) (h : PostS Φ E G0 f D) : PostS Φ E G1 f D := by
  cases f with
  | bad => exact h
  | nx δ => exact fun σ H r k => h σ H r (g.trans k)
  | bk δ => exact fun σ H r k => h σ H r (g.trans k)
  | ct δ => exact fun σ H r k => h σ H r (g.trans k)
  | rt r δ => exact fun σ v H k => h σ v H (k.weak g)
  | ex c δ => exact h
def rdS (R : RC) (lt : Bool) (E : Wx) (f : Ds → Fl) : TS := fun D σ H => ∃ Φ δ, Φ.R = R ∧ Φ.L.isSome = lt ∧ Rl Φ X0 δ σ H ∧ PostS Φ E (gG Φ X0 δ σ H) (f δ) D
section
variable {X : Cx} {ad : Nat → Addr} {lt : Bool} {E : Wx} {C : Cn} {e : Expr} {pos p : Pos} {m : ME} {st : Stmt} {rest : List Stmt} {a b : MS}
theorem s_next {D : Ends} {σ : L2.St} {H : Hp} (h : rdS (rc X ad) lt E (evS C .skip) D σ H) : D.nx σ H := by
  obtain ⟨Φ, δ, e1, e2, R0, p⟩ := h
  simp only [evS] at p
  exact p σ H R0 (Gr.refl _)
theorem ss_nil : PSs X [] (rdS (rc X ad) lt E (evS C .skip)) := PSs.imp pss_nil fun D σ H h => s_next h
theorem s_pass : PS X (.Pass pos) (rdS (rc X ad) lt E (evS C .skip)) := PS.imp ps_pass fun D σ H h => s_next h
theorem s_doc {x : Str} {j : Nat} {pos' : Pos} : PS X (.Expr (.Constant (.str x) j pos) pos') (rdS (rc X ad) lt E (evS C .skip)) := PS.imp ps_doc fun D σ H h => s_next h
theorem ss_cons (h1 : PS X st (rdS (rc X ad) lt E (evS C a))) (h2 : PSs X rest (rdS (rc X ad) lt E (evS C b))) : PSs X (st :: rest) (rdS (rc X ad) lt E (evS C (.seq a b))) := by
  refine PSs.imp (pss_cons h1 h2) fun D σ H h => ?_
  obtain ⟨Φ, δ, e1, e2, R0, p⟩ := h
  refine ⟨Φ, δ, e1, e2, R0, ?_⟩
  simp only [evS] at p
  cases hf : evS C a δ with
  | nx δ1 =>
    simp only [hf] at p
    intro σ1 H1 R1 g1
    exact ⟨Φ, δ1, e1, e2, R1, PostS.weak g1 p⟩
  | rt r δ1 => simp only [hf] at p; exact p
  | bk δ1 => simp only [hf] at p; exact p
  | ct δ1 => simp only [hf] at p; exact p
  | ex c δ1 => simp only [hf] at p; exact p
  | bad => simp only [hf] at p; exact p
/-- a value, then more -/
theorem rd_fl {f : Ds → Oc Rv} {k : Rv → Ds → Fl} {D : Ends} {σ : L2.St} {H : Hp} {Q : VK} (h : rdS (rc X ad) lt E (fun δ => (f δ).toFl k) D σ H)
    (hq : ∀ (Φ : Fr) (δ : Ds) (r : Rv) (v : V) (H1 : Hp) (G0 : Hp), Φ.R = rc X ad → Φ.L.isSome = lt → ResOk Φ σ G0 r δ v H1 → PostS Φ E G0 (k r δ) D → Q v H1) : rdE (rc X ad) lt E f σ H Q := by
  obtain ⟨Φ, δ, e1, e2, R0, p⟩ := h
  refine ⟨Φ, δ, e1, e2, R0, ?_⟩
  cases hf : f δ with
  | bad => simp only [hf] at p; exact p
  | ex c δ1 => simp only [hf] at p; exact fun H1 r => p σ H1 r
  | ok r δ1 =>
    simp only [hf] at p
    exact fun v H1 ok => hq Φ δ1 r v H1 _ e1 e2 ok p
theorem stor_nx {Φ : Fr} {σ : L2.St} {δ : Ds} {G0 : Hp} {D : Ends} {i : Nat} {r : Rv} {v : V} {H : Hp} (e2 : Φ.L.isSome = lt) (ok : ResOk Φ σ G0 r δ v H) (p : PostS Φ E G0 (stor lt i r δ) D) : D.nx (σ.set i (some v)) H := by
  unfold stor at p
  split at p
  · exact p.elim
  · rename_i hn
    have hn : ((lt && i == 0) || !decide (i < δ.length)) = false := by simpa using hn
    rw [Bool.or_eq_false_iff] at hn
    have hl := hl_of e2 hn.1
    cases r with
    | im d =>
      obtain ⟨R, g, h⟩ := ok
      obtain ⟨R1, g1⟩ := R.storeIm (i := i) hl h
      exact p _ H R1 (g.trans g1)
    | fr d =>
      obtain ⟨a, rfl, R, g, h⟩ := ok
      obtain ⟨R1, g1⟩ := R.storeOw (i := i) hl h
      exact p _ H R1 (g.trans g1)
    | pk j =>
      simp only at p
      cases hf : froz lt (.pk j) δ with
      | bad => simp only [hf] at p; exact p.elim
      | ex c δ1 => simp only [hf] at p; exact p.elim
      | ok d δ1 =>
        simp only [hf] at p
        obtain ⟨R, g, h⟩ := ok
        have h : ValOk Φ σ δ H (.pk j) v := h
        obtain ⟨R1, g1, h1⟩ := h.froz e2 R hf
        obtain ⟨R2, g2⟩ := R1.storeIm (i := i) hl h1
        exact p _ H R2 (g.trans (g1.trans g2))
theorem s_asg {i : Nat} {x : Str} {px : Pos} (hlt : C.lt = lt) (hN : X.N.Nodup) (hi : X.N[i]? = some x) (hx : Loc X.env.scope x) (he : PE X e (rdE (rc X ad) lt E (evE C m))) (hc : isCompE e = false) (hf : X.fn x = true ∨ X.env.scope.names.lookup x = some .local) :
    PS X (.Assign [.Name x px] e pos) (rdS (rc X ad) lt E (evS C (.asg i m))) := by
  refine PS.imp (ps_set hN hi hx he (swaps_no hc _ _ _) hf) fun D σ H h => ?_
  have hfun : evS C (.asg i m) = fun δ => (evE C m δ).toFl fun r δ1 => stor C.lt i r δ1 := by funext δ; simp only [evS]
  rw [hfun] at h
  exact rd_fl h fun Φ δ r v H1 G0 e1 e2 ok p => stor_nx e2 ok (by rw [← hlt]; exact p)
theorem s_expr (he : PE X e (rdE (rc X ad) lt E (evE C m))) (hc : isCompE e = false) : PS X (.Expr e pos) (rdS (rc X ad) lt E (evS C (.expr m))) := by
  refine PS.imp (ps_expr he (swaps_no hc _ _ _)) fun D σ H h => ?_
  have hfun : evS C (.expr m) = fun δ => (evE C m δ).toFl fun _ δ1 => .nx δ1 := by funext δ; simp only [evS]
  rw [hfun] at h
  refine rd_fl h fun Φ δ r v H1 G0 e1 e2 ok p => ?_
  obtain ⟨R, g, _⟩ := ok.rl
  exact p σ H1 R g
theorem s_ret (he : PE X e (rdE (rc X ad) lt E (evE C m))) : PS X (.Return (some e) pos) (rdS (rc X ad) lt E (evS C (.ret m))) := by
  refine PS.imp (ps_ret he) fun D σ H h => ?_
  have hfun : evS C (.ret m) = fun δ => (evE C m δ).toFl fun r δ1 => .rt r δ1 := by funext δ; simp only [evS]
  rw [hfun] at h
  exact rd_fl h fun Φ δ r v H1 G0 e1 e2 ok p => p σ v H1 ok
theorem s_retN : PS X (.Return none pos) (rdS (rc X ad) lt E (evS C .retN)) := by
  refine PS.imp ps_retN fun D σ H h => ?_
  obtain ⟨Φ, δ, e1, e2, R0, p⟩ := h
  simp only [evS] at p
  exact p σ _ H ⟨R0, Gr.refl _, Rep.non_iff.mpr rfl⟩
theorem s_brk : PS X (.Break pos) (rdS (rc X ad) lt E (evS C .brk)) := by
  refine PS.imp ps_break fun D σ H h => ?_
  obtain ⟨Φ, δ, e1, e2, R0, p⟩ := h
  simp only [evS] at p
  exact p σ H R0 (Gr.refl _)
theorem s_cont : PS X (.Continue pos) (rdS (rc X ad) lt E (evS C .cont)) := by
  refine PS.imp ps_continue fun D σ H h => ?_
  obtain ⟨Φ, δ, e1, e2, R0, p⟩ := h
  simp only [evS] at p
  exact p σ H R0 (Gr.refl _)
theorem s_iff {c : Expr} {ta tb : List Stmt} (hc : PT X c (rdT (rc X ad) lt E (evT (evE C m)))) (ha : PSs X ta (rdS (rc X ad) lt E (evS C a))) (hb : PSs X tb (rdS (rc X ad) lt E (evS C b))) : PS X (.If c ta tb pos) (rdS (rc X ad) lt E (evS C (.iff m a b))) := by
  refine PS.imp (ps_if hc ha hb) fun D σ H h => ?_
  obtain ⟨Φ, δ, e1, e2, R0, p⟩ := h
  refine ⟨Φ, δ, e1, e2, R0, ?_⟩
  simp only [evS] at p
  unfold evT
  cases hf : evE C m δ with
  | bad => simp only [hf] at p; exact p
  | ex c δ1 => simp only [hf] at p; exact fun H1 r => p σ H1 r
  | ok r δ1 =>
    simp only [hf, Oc.toFl] at p
    cases r with
    | im d =>
      cases d with
      | bl k =>
        intro H1 R1 g1
        cases k with
        | true => exact ⟨Φ, δ1, e1, e2, R1, PostS.weak g1 p⟩
        | false => exact ⟨Φ, δ1, e1, e2, R1, PostS.weak g1 p⟩
      | _ => exact p.elim
    | _ => exact p.elim
theorem s_whl {c : Expr} {tb : List Stmt} (hp : PassesOwn (model X.prog X.w) X.A X.env X.xe) (hc : PT X c (rdT (rc X ad) lt E (evT (evE C m)))) (hb : PSs X tb (rdS (rc X ad) lt E (evS C b))) : PS X (.While c tb [] pos) (rdS (rc X ad) lt E (evS C (.whl m b))) := by
  refine PS.imp (ps_while hp hc hb) fun D σ H h => ?_
  obtain ⟨Φ, δ, e1, e2, R0, p⟩ := h
  simp only [evS] at p
  let G0 := gG Φ X0 δ σ H
  refine ⟨fun n σ' H' => ∃ δ', Rl Φ X0 δ' σ' H' ∧ Gr (gG Φ X0 δ σ H) (gG Φ X0 δ' σ' H') ∧ PostS Φ E (gG Φ X0 δ σ H) (whlL (evE C m) (evS C b) n δ') D, ⟨C.fuel, δ, R0, Gr.refl _, p⟩, ?_⟩
  rintro n σ1 H1 ⟨δ1, R1, g1, p1⟩
  refine ⟨Φ, δ1, e1, e2, R1, ?_⟩
  cases n with
  | zero => simp only [whlL] at p1; exact p1.elim
  | succ n =>
    simp only [whlL] at p1
    unfold evT
    cases hf : evE C m δ1 with
    | bad => simp only [hf] at p1; exact p1
    | ex c δ2 => simp only [hf] at p1; exact fun H1 r => p1 σ1 H1 r
    | ok r δ2 =>
      simp only [hf, Oc.toFl] at p1
      cases r with
      | im d =>
        cases d with
        | bl k =>
          intro H2 R2 g2
          cases k with
          | true =>
            refine ⟨fun σ' H' => ∃ δ', Rl Φ X0 δ' σ' H' ∧ Gr (gG Φ X0 δ σ H) (gG Φ X0 δ' σ' H') ∧ PostS Φ E (gG Φ X0 δ σ H) (whlL (evE C m) (evS C b) n δ') D, fun σ' H' h => ⟨n, Nat.lt_succ_self n, h⟩, Φ, δ2, e1, e2, R2, ?_⟩
            simp only at p1
            cases hb : evS C b δ2 with
            | bad => simp only [hb] at p1; exact p1
            | nx δ3 => simp only [hb] at p1; exact fun σ' H' R' g' => ⟨δ3, R', g1.trans (g2.trans g'), p1⟩
            | ct δ3 => simp only [hb] at p1; exact fun σ' H' R' g' => ⟨δ3, R', g1.trans (g2.trans g'), p1⟩
            | bk δ3 => simp only [hb] at p1; exact fun σ' H' R' g' => p1 σ' H' R' (g1.trans (g2.trans g'))
            | rt r δ3 => simp only [hb] at p1; exact fun σ' v H' ok => p1 σ' v H' (ok.weak (g1.trans g2))
            | ex c δ3 => simp only [hb] at p1; exact p1
          | false => exact p1 σ1 H2 R2 (g1.trans g2)
        | _ => exact p1.elim
      | _ => exact p1.elim
theorem ev_loop {k : Sk} {src : ME} {tg : List Nat} : evS C (.loop k src tg b) = fun δ => (srcF C k src δ).toFl fun ds δ1 => forL C.lt tg (evS C b) ds δ1 := by
  funext δ
  simp only [evS, srcF]
  cases evL C src δ with
  | bad => rfl
  | ex c δ1 => rfl
  | ok rs δ1 =>
    simp only [Oc.bind, Oc.toFl]
    cases looks rs δ1 with
    | none => rfl
    | some ss =>
      simp only
      cases srcD k ss with
      | none => rfl
      | some ds =>
        simp only
        cases lends rs δ1 with
        | true => rfl
        | false => rfl
theorem s_loop {iter tgE : Expr} {tb : List Stmt} {k : Sk} {src : ME} {tg : List Nat} (hlt : C.lt = lt) (hp : PassesOwn (model X.prog X.w) X.A X.env X.xe) (hcalm : X.calm = true) (hi : PI X tgE iter (rdI (rc X ad) lt E (srcF C k src))) (hg : PG X tgE (gOf X.K tg))
    (hb : PSs X tb (rdS (rc X ad) lt E (evS C b))) (hs : isSetE iter = false) : PS X (.For tgE iter tb [] pos) (rdS (rc X ad) lt E (evS C (.loop k src tg b))) := by
  refine PS.imp (ps_for hp hcalm hi hg hb (folded_no hs X.env)) fun D σ H h => ?_
  obtain ⟨Φ, δ, e1, e2, R0, p⟩ := h
  rw [ev_loop] at p
  simp only at p
  refine ⟨Φ, δ, e1, e2, R0, ?_⟩
  have eK : Φ.R.K = X.K := by rw [e1]; rfl
  cases hs : srcF C k src δ with
  | bad => rw [hs] at p; exact p
  | ex c δ1 => rw [hs] at p; exact fun H1 r => p σ H1 r
  | ok ds δ1 =>
    rw [hs] at p
    simp only [Oc.toFl] at p
    intro J H1 R1 g1 wk
    refine ⟨fun i n σ' H' => n = ds.length - i ∧ i ≤ ds.length ∧ ∃ δ', Rl Φ X0 δ' σ' H' ∧ Gr (gG Φ X0 δ1 σ H1) (gG Φ X0 δ' σ' H') ∧ PostS Φ E (gG Φ X0 δ σ H) (forL C.lt tg (evS C b) (ds.drop i) δ') D,
      ⟨_, rfl, Nat.zero_le _, δ1, R1, Gr.refl _, by rw [List.drop_zero]; exact p⟩, ?_⟩
    clear p
    rintro i n σ2 H2 ⟨rfl, hi, δ2, R2, g2, p⟩
    obtain ⟨w1, w2⟩ := wk H2 (g2.trans (hid_le _ _)) i
    by_cases hlast : ds.length ≤ i
    · left
      refine ⟨w1 hlast, ?_⟩
      rw [List.drop_eq_nil_of_le hlast] at p
      simp only [forL] at p
      exact p σ2 H2 R2 (g1.trans g2)
    · right
      obtain ⟨d, hd⟩ : ∃ d, ds[i]? = some d := ⟨_, List.getElem?_eq_getElem (by omega)⟩
      obtain ⟨w3, w4⟩ := w2 d hd
      have hdrop : ds.drop i = d :: ds.drop (i + 1) := by
        obtain ⟨h1, h2⟩ := List.getElem?_eq_some_iff.mp hd
        rw [← h2, List.drop_eq_getElem_cons h1]
      rw [hdrop] at p
      simp only [forL] at p
      refine ⟨w3, fun σ' H' => i + 1 ≤ ds.length ∧ ∃ δ', Rl Φ X0 δ' σ' H' ∧ Gr (gG Φ X0 δ1 σ H1) (gG Φ X0 δ' σ' H') ∧ PostS Φ E (gG Φ X0 δ σ H) (forL C.lt tg (evS C b) (ds.drop (i + 1)) δ') D,
        fun σ' H' hN => ⟨_, by omega, rfl, hN⟩, fun x H' hy => ?_⟩
      obtain ⟨K1, K2, K3⟩ : Rl Φ X0 δ2 σ2 H' ∧ Gr (gG Φ X0 δ2 σ2 H2) (gG Φ X0 δ2 σ2 H') ∧ Rep Φ.R (gG Φ X0 δ2 σ2 H') d x := by
        rcases w4 x H' hy with ⟨rfl, q⟩ | ⟨q0, es, us, rfl, q1, rfl, rfl, q2⟩
        · exact ⟨R2, Gr.refl _, q.mono g2⟩
        · obtain ⟨A1, A2, A3⟩ := R2.alloc (o := .tup us) q1
          exact ⟨A1, A2, Rep.tup_iff.mpr ⟨q0, us, rfl, .inl (.inl A3), q2.mono (g2.trans A2)⟩⟩
      cases hb2 : bindT C.lt tg d δ2 with
      | none => rw [hb2] at p; exact p.elim
      | some δa =>
        rw [hb2] at p
        simp only at p
        rw [← eK]
        refine bind_ok (lt := C.lt) (by rw [hlt]; exact e2) K1 K3 hb2 fun σ3 R3 g3 _ _ => ?_
        refine ⟨Φ, δa, e1, e2, R3, ?_⟩
        have gg : Gr (gG Φ X0 δ1 σ H1) (gG Φ X0 δa σ3 H') := g2.trans (K2.trans g3)
        cases hb : evS C b δa with
        | bad => simp only [hb] at p; exact p
        | nx δ3 => simp only [hb] at p; exact fun σ' H' R' g' => ⟨by omega, δ3, R', gg.trans g', p⟩
        | ct δ3 => simp only [hb] at p; exact fun σ' H' R' g' => ⟨by omega, δ3, R', gg.trans g', p⟩
        | bk δ3 => simp only [hb] at p; exact fun σ' H' R' g' => p σ' H' R' (g1.trans (gg.trans g'))
        | rt r δ3 => simp only [hb] at p; exact fun σ' v H' ok => p σ' v H' (ok.weak (g1.trans gg))
        | ex c δ3 => simp only [hb] at p; exact p
end
end EL

set_option Elab.async false
set_option linter.all false
set_option maxRecDepth 100000
set_option maxHeartbeats 1000000
/-! comprehensions as expressions and in assignments; unpacking; op= -/
namespace EL
open PySem PySem.Spec PyProof.Rows L2 RZ
section
variable {X : Cx} {ad : Nat → Addr} {lt : Bool} {E : Wx} {C : Cn} {e elt tgE iter : Expr} {pos spos p : Pos} {m src c : ME} {k : Sk} {tg : List Nat} {t : Bool} {ifs : List Expr} {scope : Scope} {own : List (Str × Nat)}
theorem e_comp (hlt : C.lt = lt) (hc : X.calm = true) (hN : X.N.Nodup) (hi : PI X tgE iter (rdI (rc X ad) lt E (srcF C k src))) (ok : BlkOk X.N X.env.scope scope own)
    (hg : ∀ (s : Shared) (H : Hp) (Ca : Addr) (cl : List (Str × Addr)) (fp : List Addr), PG (X.blk s H scope (compEnvC scope cl Ca X.env) fp) tgE (gOf X.K tg))
    (ht : ∀ (s : Shared) (H : Hp) (Ca : Addr) (cl : List (Str × Addr)) (fp : List Addr), PTs (X.blk s H scope (compEnvC scope cl Ca X.env) fp) ifs (rdC X ad lt C t c))
    (he : ∀ (s : Shared) (H : Hp) (Ca : Addr) (cl : List (Str × Addr)) (fp : List Addr), PE (X.blk s H scope (compEnvC scope cl Ca X.env) fp) elt (rdE (rc X ad) lt Wf (evE C m))) (hs : isSetE iter = false) :
    PE X (.ListComp elt [⟨tgE, iter, ifs, 0⟩] scope pos) (rdE (rc X ad) lt E (evE C (.comp (own.map (·.2)) k src tg t c m))) :=
  PE.imp (pe_lc hc hN hi ok hg ht he (folded_no hs X.env)) fun σ H Q h => rd_comp hlt h
theorem s_asgC {i : Nat} {y : Str} {py : Pos} (hlt : C.lt = lt) (hc : X.calm = true) (hN : X.N.Nodup) (hy : X.N[i]? = some y) (hyl : X.env.scope.names.lookup y = some .local) (hl : (py.line == pos.line) = true)
    (ha : (scope.names.any fun (n, k) => n == y && (k == .local || k == .cell)) = false) (hi : PI X tgE iter (rdI (rc X ad) lt E (srcF C k src))) (ok : BlkOk X.N X.env.scope scope own)
    (hg : ∀ (s : Shared) (H : Hp) (Ca : Addr) (cl : List (Str × Addr)) (fp : List Addr), PG (X.blk s H scope (compEnvC scope cl Ca X.env) fp) tgE (gOf X.K tg))
    (ht : ∀ (s : Shared) (H : Hp) (Ca : Addr) (cl : List (Str × Addr)) (fp : List Addr), PTs (X.blk s H scope (compEnvC scope cl Ca X.env) fp) ifs (rdC X ad lt C t c))
    (he : ∀ (s : Shared) (H : Hp) (Ca : Addr) (cl : List (Str × Addr)) (fp : List Addr), PE (X.blk s H scope (compEnvC scope cl Ca X.env) fp) elt (rdE (rc X ad) lt Wf (evE C m))) (hs : isSetE iter = false) :
    PS X (.Assign [.Name y py] (.ListComp elt [⟨tgE, iter, ifs, 0⟩] scope pos) spos) (rdS (rc X ad) lt E (evS C (.asg i (.comp (own.map (·.2)) k src tg t c m)))) := by
  refine ⟨fun pins s σ H D I h => ?_⟩
  refine (ps_setLc hc hN hy hyl (sw_true I.ok.kind hyl hl ha) hi ok hg ht he (folded_no hs X.env)).run pins s σ H D I ?_
  have hfun : evS C (.asg i (.comp (own.map (·.2)) k src tg t c m)) = fun δ => (evE C (.comp (own.map (·.2)) k src tg t c m) δ).toFl fun r δ1 => stor C.lt i r δ1 := by funext δ; simp only [evS]
  rw [hfun] at h
  have h2 := rd_comp hlt (rd_fl (Q := fun v H1 => D.nx (σ.set i (some v)) H1) h fun Φ δ r v H1 G0 e1 e2 ok p => stor_nx e2 ok (by rw [← hlt]; exact p))
  exact h2
/-! ### several names -/
theorem sole_no {e : Expr} (h : isCompE e = false) (t : Expr) (l : Nat) (env : Env) : swapsWithSole [t] e l env = pure false := by
  have h1 : swapsWithSole [t] e l env = swapsWith e (some t) l env := by rw [swapsWithSole]
  rw [h1]
  exact swaps_no h _ _ _
def isTupE : Expr → Bool
  | .Tuple .. => true
  | _ => false
theorem swapped_no {ts : List Expr} {k' : Nat} {pt : Pos} (h : isTupE e = false) (env : Env) : swappedStores [.Tuple ts k' pt] e env = pure none := by
  cases e <;> first | rfl | exact absurd h (by simp [isTupE])
theorem s_unp {elts : List Expr} {k' : Nat} {pt : Pos} (hlt : C.lt = lt) (he : PE X e (rdE (rc X ad) lt E (evE C m))) (hg : PG X (.Tuple elts k' pt) (gOf X.K tg)) (hc : isCompE e = false) (ht : isTupE e = false) :
    PS X (.Assign [.Tuple elts k' pt] e pos) (rdS (rc X ad) lt E (evS C (.unp tg m))) := by
  refine PS.imp (ps_asg he hg (sole_no hc _ _ _) (swapped_no ht X.env)) fun D σ H h => ?_
  have hfun : evS C (.unp tg m) = fun δ => (evE C m δ).toFl fun r δ1 => match look r δ1 with
    | some (.tup ds) => (match bindT C.lt tg (.tup ds) δ1 with | some δ2 => if tg.length == 1 then .bad else .nx δ2 | none => .bad)
    | _ => .bad := by funext δ; simp only [evS]; try rfl
  rw [hfun] at h
  refine rd_fl h fun Φ δ r v H1 G0 e1 e2 ok p => ?_
  obtain ⟨R, g, hv⟩ := ok.rl
  have eK : Φ.R.K = X.K := by rw [e1]; rfl
  split at p
  · rename_i ds hl
    obtain ⟨a, vs, rfl, s1, r1⟩ := hv.tup R (by rw [look_seen]; exact hl)
    split at p
    · rename_i δ2 hb
      split at p
      · exact p.elim
      · rw [← eK]
        exact bind_ok (lt := C.lt) (by rw [hlt]; exact e2) R (Rep.tup_iff.mpr ⟨a, vs, rfl, s1, r1⟩) hb fun σ' R' g' _ _ => p σ' H1 R' (g.trans g')
    · exact p.elim
  · exact p.elim
def op2 : B2 → Operator → Bool
  | .add, .Add => true
  | .sub, .Sub => true
  | _, _ => false
theorem s_aug {i : Nat} {x : Str} {px : Pos} {o : B2} {op : Operator} (hlt : C.lt = lt) (ho : op2 o op = true) (hN : X.N.Nodup) (hi : X.N[i]? = some x) (hx : Loc X.env.scope x) (he : PE X e (rdE (rc X ad) lt E (evE C m))) (hf : X.fn x = true ∨ X.env.scope.names.lookup x = some .local) :
    PS X (.AugAssign (.Name x px) op e pos) (rdS (rc X ad) lt E (evS C (.aug i o m))) := by
  have go : ∀ (f : Int → Int → Int), (∀ x y : Int, (o = .add ∧ f x y = x + y) ∨ (o = .sub ∧ f x y = x - y)) → ∀ D σ H, rdS (rc X ad) lt E (evS C (.aug i o m)) D σ H → tAug i (rdE (rc X ad) lt E (evE C m)) (ipI f) D σ H := fun f hf D σ H h => by
    obtain ⟨Φ, δ, e1, e2, R0, p⟩ := h
    simp only [evS] at p
    cases h0 : (C.lt && i == 0) with
    | true => rw [h0] at p; simp only [if_true] at p; exact p.elim
    | false =>
      rw [h0] at p
      simp only [Bool.false_eq_true, if_false] at p
      have hl := hl_of (Φ := Φ) (lt := C.lt) (by rw [hlt]; exact e2) h0
      cases hi0 : δ[i]? with
      | none => rw [hi0] at p; exact p.elim
      | some s =>
        rw [hi0] at p
        cases s with
        | im d0 =>
          cases d0 with
          | int x0 =>
            simp only at p
            obtain ⟨v0, q1, q2⟩ := R0.im i _ hi0
            rw [Rep.int_iff.mp q2] at q1
            refine ⟨.int x0, q1, Φ, δ, e1, e2, R0, ?_⟩
            cases hf' : evE C m δ with
            | bad => simp only [hf'] at p; exact p
            | ex c δ1 => simp only [hf'] at p; exact fun H1 r => p σ H1 r
            | ok r δ1 =>
              simp only [hf', Oc.toFl] at p
              intro y H1 ok
              obtain ⟨R, g, hv⟩ := ok.rl
              cases hlk : look r δ1 with
              | none => rw [hlk] at p; exact p.elim
              | some d1 =>
                rw [hlk] at p
                cases d1 with
                | int y0 =>
                  have hy := Rep.int_iff.mp (hv.full R (by rw [look_seen]; exact hlk))
                  refine ⟨x0, y0, rfl, hy, ?_⟩
                  have fin : PostS Φ E (gG Φ X0 δ σ H) (.nx (δ1.set i (.im (.int (f x0 y0))))) D := by
                    rcases hf x0 y0 with ⟨rfl, e⟩ | ⟨rfl, e⟩
                    · rw [e]; exact p
                    · rw [e]; exact p
                  obtain ⟨R1, g1⟩ := R.storeIm (i := i) (v := .int (f x0 y0)) hl (Rep.int_iff.mpr rfl)
                  exact fin _ H1 R1 (g.trans g1)
                | _ => exact p.elim
          | _ => exact p.elim
        | _ => exact p.elim
  cases o <;> cases op <;> first | (cases ho; done) | skip
  · exact PS.imp (ps_aug hN hi hx he ip_add hf) (go _ fun x y => .inl ⟨rfl, rfl⟩)
  · exact PS.imp (ps_aug hN hi hx he ip_sub hf) (go _ fun x y => .inr ⟨rfl, rfl⟩)
end
end EL

set_option Elab.async false
set_option linter.all false
set_option maxRecDepth 100000
set_option maxHeartbeats 1000000
/-! methods of lists and dicts, stores at an index -/
namespace EL
open PySem PySem.Spec PyProof.Rows L2 RZ
theorem hd_no {δ : Ds} {i : Nat} (h : ∀ d, δ[i]? ≠ some (.ow d)) : True := trivial
section
variable {X : Cx} {ad : Nat → Addr} {lt : Bool} {E : Wx} {C : Cn} {e o : Expr} {pos apos cpos p : Pos} {m : ME}
theorem few1 {e : Expr} (h : isStar e = false) (env : Env) (cpos : Pos) : ((backTo cpos (starEach [e] env)).all (fun x => !x.1) && (backToKw cpos (keywordEach [] env)).all (fun x => x.1.isSome)
      && decide (([e] : List Expr).length + ([] : List Keyword).length + (if ([] : List Keyword).isEmpty then 0 else 1) < 30)) = true := by
  rw [star_no h] <;> rfl
/-- o.name(e), o a list or a dict of the frame's own -/
theorem pe_bmU {to : TE} {t : TA} {name : Str} {idL idD : String} {rL rD : V → List V → Hp → VK → Prop} (paL : PlainAttrs "list") (slotL : Slot "list" name idL) (htyL : typeOf (.builtin idL) = pure (.type "method_descriptor")) (hmL : MtR X idL rL)
    (paD : PlainAttrs "dict") (slotD : Slot "dict" name idD) (htyD : typeOf (.builtin idD) = pure (.type "method_descriptor")) (hmD : MtR X idD rD) (ho : PE X o to) (ha : PA X [e] t)
    (hbase : attributeBase o name X.env (eval o X.env) = eval o X.env) (hline : (apos.endLine == cpos.line) = true) (hst : isStar e = false) :
    PE X (.Call (.Attribute o name apos) [e] [] cpos) (fun σ H Q => to σ H fun x H1 => (∃ a xs, x = .ref a ∧ SqL X.K H1 a xs ∧ t σ H1 fun xs H2 => rL x xs H2 Q) ∨ (∃ a rows, x = .ref a ∧ Rd H1 a (dicO a rows) ∧ t σ H1 fun xs H2 => rD x xs H2 Q)) := by
  refine ⟨fun pins s σ H Q I h => ?_⟩
  refine wpAny_Call_method_late hbase (few1 hst X.env cpos) hline rfl (thn (ho.run pins s σ H _ I h) fun v s1 ⟨x, H1, I1, r1, q1⟩ => ?_)
  have hs : starEach [e] X.env = (false, eval e X.env) :: starEach [] X.env := star_no hst [] X.env
  rcases q1 with ⟨a, xs, rfl, hq, q1⟩ | ⟨a, rows, rfl, hq, q1⟩
  · obtain ⟨h1, h2⟩ := tyV_is I1 r1 (T := "list") (.inl ⟨rfl, xs, hq⟩)
    refine ⟨"list", idL, paL, slotL, htyL, h1, h2, ?_⟩
    have hA := ha.run cpos pins s1 σ H1 _ I1 q1
    rw [hs] at hA ⊢
    refine Calls.callWith_builtin rfl (Calls.evalArgs_plain ?_)
    exact thn hA fun us s2 ⟨vs, H2, I2, r2, q2⟩ => hmL pins s2 σ H2 _ vs v us Q I2 r1 r2 q2
  · cases r1
    obtain ⟨ob, es, ep, e1, e2, _⟩ := dic_rd I1 hq
    refine ⟨"dict", idD, paD, slotD, htyD, ⟨ob, e1, e2.1⟩, (fun b eb => by cases eb; exact ⟨ob, e1, e2.2.1⟩), ?_⟩
    have hA := ha.run cpos pins s1 σ H1 _ I1 q1
    rw [hs] at hA ⊢
    refine Calls.callWith_builtin rfl (Calls.evalArgs_plain ?_)
    exact thn hA fun us s2 ⟨vs, H2, I2, r2, q2⟩ => hmD pins s2 σ H2 (.ref a) vs _ us Q I2 rfl r2 q2

/-! ### d.pop(k) -/
theorem del_rel {R : RC} {G : Hp} {k : List Key} : ∀ {xs : List (List Key × Addr × Value)} {ds : List D} {us : List V}, (xs.map (·.1)).Nodup → Vals us (xs.map (·.2.2)) → Reps R G ds us → Reps R G ((xs.map (·.1)).map tupD) (xs.map fun x => V.ref x.2.1) →
    ((withoutH xs k).map (·.1)).map tupD = (ddel ((xs.map (·.1)).map tupD) ds (tupD k)).1 ∧ (∃ us', Vals us' ((withoutH xs k).map (·.2.2)) ∧ Reps R G (ddel ((xs.map (·.1)).map tupD) ds (tupD k)).2 us') ∧
      Reps R G (((withoutH xs k).map (·.1)).map tupD) ((withoutH xs k).map fun x => V.ref x.2.1)
  | [], ds, us, hn, hv, hr, ha => by
    refine ⟨rfl, ⟨[], .nil, ?_⟩, Reps.nil⟩
    simp only [List.map_nil, ddel]
    exact Reps.nil
  | (k0, a0, u0) :: xs, ds, us, hn, hv, hr, ha => by
    cases hv with
    | cons q1 q2 =>
      obtain ⟨d0, ds', rfl⟩ : ∃ d ds', ds = d :: ds' := by
        cases ds with
        | nil => have := hr.inv0; cases this
        | cons d ds' => exact ⟨d, ds', rfl⟩
      obtain ⟨v', r', f1, f2, f3⟩ := hr.inv
      cases f1
      obtain ⟨v2, r2, g1, g2, g3⟩ := ha.inv
      simp only [List.map_cons, List.cons.injEq] at g1
      obtain ⟨g1, g1'⟩ := g1
      subst g1 g1'
      rw [List.map_cons, List.nodup_cons] at hn
      simp only [List.map_cons, ddel, deq_tup]
      by_cases h : k0 = k
      · subst h
        have hw : withoutH ((k0, a0, u0) :: xs) k0 = xs := by
          unfold withoutH
          rw [List.filter_cons_of_neg (by simp)]
          exact withoutH_of_not_mem xs k0 hn.1
        rw [hw]
        simp only [decide_true, if_true]
        exact ⟨trivial, ⟨_, q2, f3⟩, g3⟩
      · have hw : withoutH ((k0, a0, u0) :: xs) k = (k0, a0, u0) :: withoutH xs k := by
          unfold withoutH
          rw [List.filter_cons_of_pos (by simpa using h)]
        obtain ⟨i1, ⟨us', i2, i3⟩, i4⟩ := del_rel (k := k) hn.2 q2 f3 g3
        rw [hw, decide_eq_false h]
        simp only [Bool.false_eq_true, if_false, List.map_cons]
        exact ⟨by rw [i1], ⟨_, .cons q1 i2, .cons f2 i3⟩, .cons g2 i4⟩
/-- what stands for a dict's changed value -/
def rPopD (X : Cx) (ad : Nat → Addr) : V → List V → Hp → VK → Prop := fun x xs H Q => ∃ (a : Addr) (rows : List DictEntry) (ks ds : List D) (k d : D) (y : V) (G : Hp), x = .ref a ∧ xs = [y] ∧ H a = some (dicO a rows) ∧ DicP (rc X ad) G rows ks ds ∧ (∀ b vs, SqT X.K G b vs → SqT X.K H b vs) ∧
  kSort ks k = true ∧ (tkey k).isSome = true ∧ ks.length ≤ sizeLine ∧ dlook ks ds k = some d ∧ Rep (rc X ad) H k y ∧ ∀ v rows', Rep (rc X ad) G d v → DicP (rc X ad) G rows' (ddel ks ds k).1 (ddel ks ds k).2 → Q v (upd H a (dicO a rows'))
theorem mt_popD (hu : X.A.units + 100 < cLine) : MtR X "dict.pop" (rPopD X ad) := by
  intro pins s σ H x xs v us Q I rx rv h
  obtain ⟨a, rows, ks, ds, k, d, y, G, rfl, rfl, ha, hp, hG, hs, ht, hz, hl, hy, q⟩ := h
  cases rx
  obtain ⟨u, rfl, ru⟩ := rv.one
  rcases sorts hp.1.2 hs with ⟨kk, k', e, n, ek⟩ | ⟨kt, k', e, n, ek⟩
  · subst ek
    rw [tkey_keyD] at ht
    cases ht
  · subst e ek
    obtain ⟨hd, xs, us, h1, h2, h3, h4, h5⟩ := dicT I hG (.inl ha) n hp
    obtain ⟨b, rfl, hb⟩ := key_tup I hy ru
    have := lookT h3 h4 k'
    rw [h2, hl] at this
    obtain ⟨p', v', e1, e2, e3⟩ := this
    have hlen : xs.length ≤ sizeLine := by
      have : xs.length = kt.length := by rw [← h2, List.length_map]
      rw [List.length_map] at hz
      omega
    refine call_pop_heap (more := []) (.inl rfl) (PySem.F.args_dict_pop_2 _ _) (tupleKind_room_in1 (by omega)) hb hd h1 e1 (fun h' hm hs' => ?_) hlen
    obtain ⟨o, es, ep, g1, g2, g3, g4, g5, g6⟩ := hm
    rw [← h2] at h5
    obtain ⟨i1, ⟨us', i2, i3⟩, i4⟩ := del_rel (k := k') (by rw [h2]; exact n) h3 h4 h5
    rw [h2] at i1 i3
    have hp' := dicP_T (R := rc X ad) (G := G) g4 g6 i2 i3 i4
    rw [i1] at hp'
    exact ⟨v', _, d_write I (by rw [ha]; exact True.intro) hs' ⟨o, g1⟩ (dic_obj ⟨o, es, ep, g1, g2, g3, rfl, hd⟩), e2, q v' es.toList e3 hp'⟩
/-! ### x.pop(k) -/
theorem rd_popi {i : Nat} {σ : L2.St} {H : Hp} {Q : VK} (hlt : C.lt = lt) (h : rdE (rc X ad) lt E (evE C (.popi i m)) σ H Q) :
    tVar i σ H fun x H1 => (∃ a xs, x = .ref a ∧ SqL X.K H1 a xs ∧ tCons (rdE (rc X ad) lt E (evE C m)) tNil σ H1 fun xs H2 => rPopAt x xs H2 Q) ∨ (∃ a rows, x = .ref a ∧ Rd H1 a (dicO a rows) ∧ tCons (rdE (rc X ad) lt E (evE C m)) tNil σ H1 fun xs H2 => rPopD X ad x xs H2 Q) := by
  obtain ⟨Φ, δ, e1, e2, R0, p⟩ := h
  simp only [evE] at p
  split at p
  · rename_i ds0 hi
    obtain ⟨a, h0, o, ho, vs0, rfl, hr0⟩ := R0.ow i _ hi
    refine ⟨.ref a, h0, .inl ⟨a, vs0, rfl, .inl (.inl ho), Φ, δ, e1, e2, R0, ?_⟩⟩
    cases hf : evE C m δ with
    | bad => simp only [hf] at p; exact p
    | ex c δ1 => simp only [hf] at p; exact p
    | ok rk δ1 =>
      simp only [hf, Oc.bind] at p
      intro y H1 ok
      obtain ⟨R1, g1, v1⟩ := ok.rl
      have p := PostE.weak g1 p
      split at p
      · rename_i n ds hk hi1
        split at p
        · rename_i hsz
          have hsz := of_decide_eq_true hsz
          split at p
          · rename_i j hj
            split at p
            · rename_i d hd
              obtain ⟨a', h0', o', ho', vs, rfl, hr⟩ := R1.ow i _ hi1
              rw [h0] at h0'
              cases h0'
              have hy := Rep.int_iff.mp (v1.full R1 (by rw [look_seen]; exact hk))
              obtain ⟨w, hw1, hw2⟩ := hr.get hd
              obtain ⟨z1, z2, z3, z4⟩ := ixN_seq hj
              have hl := hr.length
              have hn := line63
              refine ⟨a, vs, n, j, w, rfl, by rw [hy], ho', by omega, by omega, by rw [← hl]; exact z1, hw1, ?_⟩
              obtain ⟨W1, W2⟩ := R1.write hi1 h0 (o' := .lst (vs.eraseIdx j)) (d' := .lst (ds.eraseIdx j)) ⟨_, rfl, hr.erase j⟩
              exact p w _ ⟨W1, by rw [W2]; exact Gr.refl _, by rw [W2]; exact hw2⟩
            · exact p.elim
          · exact p.elim
        · exact p.elim
      · exact p.elim
  · rename_i ks0 ds0 hi
    obtain ⟨a, h0, o, ho, rows0, rfl, hr0⟩ := R0.ow i _ hi
    refine ⟨.ref a, h0, .inr ⟨a, rows0, rfl, .inl ho, Φ, δ, e1, e2, R0, ?_⟩⟩
    cases hf : evE C m δ with
    | bad => simp only [hf] at p; exact p
    | ex c δ1 => simp only [hf] at p; exact p
    | ok rk δ1 =>
      simp only [hf, Oc.bind] at p
      intro y H1 ok
      obtain ⟨R1, g1, v1⟩ := ok.rl
      have p := PostE.weak g1 p
      split at p
      · rename_i x ks ds hk hi1
        split at p
        · rename_i hc
          rw [Bool.and_eq_true, Bool.and_eq_true] at hc
          split at p
          · rename_i d hd
            obtain ⟨a', h0', o', ho', rows, rfl, hr⟩ := R1.ow i _ hi1
            rw [h0] at h0'
            cases h0'
            have hy := v1.full R1 (by rw [look_seen]; exact hk)
            refine ⟨a, rows, ks, ds, x, d, y, gG Φ X0 δ1 σ H1, rfl, rfl, ho', e1 ▸ hr, fun b vs q => (hid_le _ _).sqT q, hc.1.1, hc.1.2, of_decide_eq_true hc.2, hd, e1 ▸ hy, fun v rows' hv hp' => ?_⟩
            obtain ⟨W1, W2⟩ := R1.write hi1 h0 (o' := dicO a rows') (d' := .dic (ddel ks ds x).1 (ddel ks ds x).2) ⟨rows', rfl, e1 ▸ hp'⟩
            exact p v _ ⟨W1, by rw [W2]; exact Gr.refl _, by rw [W2, e1]; exact hv⟩
          · exact p.elim
        · exact p.elim
      · exact p.elim
  · exact p.elim
end
end EL

set_option Elab.async false
set_option linter.all false
set_option maxRecDepth 100000
set_option maxHeartbeats 1000000
/-! append, extend, pop, stores at an index, raise -/
namespace EL
open PySem PySem.Spec PyProof.Rows L2 RZ
section
variable {X : Cx} {ad : Nat → Addr} {lt : Bool} {E : Wx} {C : Cn} {e o : Expr} {pos apos cpos p px : Pos} {m mk : ME} {x : Str} {i : Nat}
theorem ValOk.frozE {Φ : Fr} {σ : L2.St} {δ δ1 : Ds} {H : Hp} {r : Rv} {v : V} {d : D} {lt : Bool} (hl : Φ.L.isSome = lt) (R : Rl Φ X0 δ σ H) (h : ValOk Φ σ δ H r.seen v) (e : EL.froz lt r δ = .ok d δ1) :
    Rl Φ X0 δ1 σ H ∧ Gr (gG Φ X0 δ σ H) (gG Φ X0 δ1 σ H) ∧ Rep Φ.R (gG Φ X0 δ1 σ H) d v := by
  have hz : EL.froz lt r δ = EL.froz lt r.seen δ := by cases r <;> rfl
  rw [hz] at e
  exact h.froz hl R e
theorem s_app (hlt : C.lt = lt) (hN : X.N[i]? = some x) (hv : visB X.env.scope x = true) (hx : okNm x = true) (he : PE X e (rdE (rc X ad) lt E (evE C m))) (hline : (apos.endLine == cpos.line) = true) (hst : isStar e = false) :
    PS X (.Expr (.Call (.Attribute (.Name x px) "append" apos) [e] [] cpos) pos) (rdS (rc X ad) lt E (evS C (.app i m))) := by
  have hb := pe_bm (o := .Name x px) PySem.F.plainAttrs_list PySem.F.slot_list_append PySem.F.type_list_append mt_append (pe_var (pos := px) (i := i) hN (vis_of hv) (okNm_dbg hx) (okNm_cd hx)) (pa_cons he pa_nil (star_no hst [] X.env))
    (base_name rfl _ X.env _) (few1 hst X.env cpos) hline (star_no hst [] X.env) rfl
  refine PS.imp (ps_expr hb (swaps_no rfl _ _ _)) fun D σ H h => ?_
  obtain ⟨Φ, δ, e1, e2, R0, p⟩ := h
  simp only [evS] at p
  split at p
  · rename_i ds0 hi
    obtain ⟨a, h0, ob, ho, vs0, rfl, hr0⟩ := R0.ow i _ hi
    refine ⟨.ref a, h0, .inl ⟨rfl, vs0, .inl (.inl ho)⟩, Φ, δ, e1, e2, R0, ?_⟩
    cases hf : evE C m δ with
    | bad => simp only [hf] at p; exact p
    | ex c δ1 => simp only [hf] at p; exact fun H1 r => p σ H1 r
    | ok r δ1 =>
      simp only [hf, Oc.toFl] at p
      intro v H1 ok
      obtain ⟨R1, g1, v1⟩ := ok.rl
      cases hq : froz C.lt r δ1 with
      | bad => simp only [hq] at p; exact p.elim
      | ex c δ2 => simp only [hq] at p; exact p.elim
      | ok y δ2 =>
        simp only [hq] at p
        obtain ⟨R2, g2, v2⟩ := v1.frozE (by rw [hlt]; exact e2) R1 hq
        split at p
        · rename_i ds hi2
          split at p
          · rename_i hz
            obtain ⟨a', h0', o', ho', vs, rfl, hr⟩ := R2.ow i _ hi2
            rw [h0] at h0'
            cases h0'
            obtain ⟨W1, W2⟩ := R2.write hi2 h0 (o' := .lst (vs ++ [v])) (d' := .lst (ds ++ [y])) ⟨_, rfl, hr.append (.cons v2 .nil)⟩
            exact ⟨a, vs, v, rfl, rfl, ho', by rw [← hr.length]; exact of_decide_eq_true hz, p σ _ W1 (by rw [W2]; exact g1.trans g2)⟩
          · exact p.elim
        · exact p.elim
  · exact p.elim
theorem rd_popv {σ : L2.St} {H : Hp} {Q : VK} (h : rdE (rc X ad) lt E (evE C (.popv i)) σ H Q) : tBM0 X.K "list" rPop (tVar i) σ H Q := by
  obtain ⟨Φ, δ, e1, e2, R0, p⟩ := h
  simp only [evE] at p
  split at p
  · rename_i ds hi
    split at p
    · rename_i d hd
      obtain ⟨a, h0, ob, ho, vs, rfl, hr⟩ := R0.ow i _ hi
      rw [hr.length] at hd
      obtain ⟨w, hw1, hw2⟩ := hr.get hd
      obtain ⟨W1, W2⟩ := R0.write hi h0 (o' := .lst vs.dropLast) (d' := .lst ds.dropLast) ⟨_, rfl, hr.dropLast⟩
      exact ⟨.ref a, h0, .inl ⟨rfl, vs, .inl (.inl ho)⟩, a, vs, w, rfl, rfl, ho, hw1, p w _ ⟨W1, by rw [W2]; exact Gr.refl _, by rw [W2]; exact hw2⟩⟩
    · exact p.elim
  · exact p.elim
theorem e_popv (hN : X.N[i]? = some x) (hv : visB X.env.scope x = true) (hx : okNm x = true) (hline : (apos.endLine == cpos.line) = true) :
    PE X (.Call (.Attribute (.Name x px) "pop" apos) [] [] cpos) (rdE (rc X ad) lt E (evE C (.popv i))) :=
  PE.imp (pe_bm0 PySem.F.plainAttrs_list PySem.F.slot_list_pop PySem.F.type_list_pop mt_pop (pe_var (pos := px) (i := i) hN (vis_of hv) (okNm_dbg hx) (okNm_cd hx)) (base_name rfl _ X.env _) hline) fun σ H Q h => rd_popv h
theorem e_popi (hu : X.A.units + 100 < cLine) (hlt : C.lt = lt) (hN : X.N[i]? = some x) (hv : visB X.env.scope x = true) (hx : okNm x = true) (he : PE X e (rdE (rc X ad) lt E (evE C m))) (hline : (apos.endLine == cpos.line) = true) (hst : isStar e = false) :
    PE X (.Call (.Attribute (.Name x px) "pop" apos) [e] [] cpos) (rdE (rc X ad) lt E (evE C (.popi i m))) :=
  PE.imp (pe_bmU PySem.F.plainAttrs_list PySem.F.slot_list_pop PySem.F.type_list_pop mt_popAt PySem.F.plainAttrs_dict PySem.F.slot_dict_pop PySem.F.type_dict_pop (mt_popD (ad := ad) hu)
    (pe_var (pos := px) (i := i) hN (vis_of hv) (okNm_dbg hx) (okNm_cd hx)) (pa_cons he pa_nil (star_no hst [] X.env)) (base_name rfl _ X.env _) hline hst) fun σ H Q h => rd_popi hlt h

/-! ### x[k] = e -/
def rSetU (X : Cx) (ad : Nat → Addr) : TSet := fun o i v H Q => rSetL o i v H Q ∨ ∃ (a : Addr) (rows : List DictEntry) (ks ds : List D) (k d : D) (G : Hp), o = .ref a ∧ H a = some (dicO a rows) ∧ DicP (rc X ad) G rows ks ds ∧ (∀ b vs, SqT X.K G b vs → SqT X.K H b vs) ∧
  (∀ (d : D) (v : V), Rep (rc X ad) G d v → Rep (rc X ad) H d v) ∧ kSort ks k = true ∧ ks.length < sizeLine ∧ Rep (rc X ad) G k i ∧ Rep (rc X ad) G d v ∧ ∀ rows', DicP (rc X ad) G rows' (dput ks ds k d).1 (dput ks ds k d).2 → Q (upd H a (dicO a rows'))
theorem set_U (hu : X.A.units + 100 < cLine) : PSet X (rSetU X ad) := by
  intro pins s σ H o i v ov iv u Q I ro ri rv h
  rcases h with h | ⟨a, rows, ks, ds, k, d, G, rfl, ha, hp, hG, hGR, hs, hz, hk, hd, q⟩
  · exact set_list pins s σ H o i v ov iv u Q I ro ri rv h
  · cases ro
    exact c_set hu I hG hGR ha hp hs hz hk ri hd rv fun rows' s' hp' I' => ⟨_, I', q rows' hp'⟩
theorem swapped_sub {o i : Expr} {tpos : Pos} (e : Expr) (env : Env) : swappedStores [.Subscript o i tpos] e env = pure none := by
  cases e <;> rfl
theorem s_setx {k : Expr} {tpos : Pos} (hu : X.A.units + 100 < cLine) (hlt : C.lt = lt) (hN : X.N[i]? = some x) (hv : visB X.env.scope x = true) (hx : okNm x = true) (hk : PE X k (rdE (rc X ad) lt E (evE C mk))) (he : PE X e (rdE (rc X ad) lt E (evE C m)))
    (hsl : isSliceE k = false) (hc : isCompE e = false) : PS X (.Assign [.Subscript (.Name x px) k tpos] e pos) (rdS (rc X ad) lt E (evS C (.setx i mk m))) := by
  have ha : ∀ v, assign (.Subscript (.Name x px) k tpos) X.env v = (do
      let ov ← holding [v] (eval (.Name x px) X.env)
      let iv ← holding [v, ov] (eval k X.env)
      standAt tpos
      holding [v, ov, iv] (setItem ov iv v)
      release [v, ov, iv] []) := by
    intro v
    cases k <;> first | rfl | exact absurd hsl (by simp [isSliceE])
  refine PS.imp (ps_asg he (pg_sub (pe_var (pos := px) (i := i) hN (vis_of hv) (okNm_dbg hx) (okNm_cd hx)) hk (set_U (ad := ad) hu) ha) (sole_no hc _ _ _) (swapped_sub e X.env)) fun D σ H h => ?_
  have hfun : evS C (.setx i mk m) = fun δ => (evE C m δ).toFl fun r δ1 => match froz C.lt r δ1 with
    | .ok y δ2 => (match δ2[i]? with
      | some (.ow _) => (evE C mk δ2).toFl fun rk δ3 => (match froz C.lt rk δ3 with
        | .ok x δ4 => (match x, δ4[i]? with
          | .int n, some (.ow (.lst ds)) => (match ixN ds.length n with
            | some j => .nx (δ4.set i (.ow (.lst (ds.set j y))))
            | none => .bad)
          | x, some (.ow (.dic ks vs)) => if kSort ks x && decide (ks.length < sizeLine) then .nx (δ4.set i (.ow (.dic (dput ks vs x y).1 (dput ks vs x y).2))) else .bad
          | _, _ => .bad)
        | _ => .bad)
      | _ => .bad)
    | _ => .bad := by funext δ; simp only [evS]; try rfl
  rw [hfun] at h
  refine rd_fl h fun Φ δ r v H1 G0 e1 e2 ok p => ?_
  have eK : Φ.R.K = X.K := by rw [e1]; rfl
  obtain ⟨R1, g1, v1⟩ := ok.rl
  cases hq : froz C.lt r δ with
  | bad => simp only [hq] at p; exact p.elim
  | ex c δ2 => simp only [hq] at p; exact p.elim
  | ok y δ2 =>
    simp only [hq] at p
    obtain ⟨R2, g2, v2⟩ := v1.frozE (by rw [hlt]; exact e2) R1 hq
    split at p
    · rename_i d0 hi0
      obtain ⟨a, h0, _⟩ := R2.ow i _ hi0
      refine ⟨.ref a, h0, Φ, δ2, e1, e2, R2, ?_⟩
      cases hf : evE C mk δ2 with
      | bad => simp only [hf] at p; exact p
      | ex c δ3 => simp only [hf] at p; exact fun H3 r3 => p σ H3 r3
      | ok rk δ3 =>
        simp only [hf, Oc.toFl] at p
        intro w H3 ok3
        obtain ⟨R3, g3, v3⟩ := ok3.rl
        cases hq3 : froz C.lt rk δ3 with
        | bad => simp only [hq3] at p; exact p.elim
        | ex c δ4 => simp only [hq3] at p; exact p.elim
        | ok kd δ4 =>
          simp only [hq3] at p
          obtain ⟨R4, g4, v4⟩ := v3.frozE (by rw [hlt]; exact e2) R3 hq3
          have vy := v2.mono (g3.trans g4)
          have gall := g1.trans (g2.trans (g3.trans g4))
          have dic_ : ∀ ks vs, δ4[i]? = some (.ow (.dic ks vs)) → PostS Φ E G0 (if kSort ks kd && decide (ks.length < sizeLine) then .nx (δ4.set i (.ow (.dic (dput ks vs kd y).1 (dput ks vs kd y).2))) else .bad) D → rSetU X ad (.ref a) w v H3 fun H3 => D.nx σ H3 := fun ks vs hi4 p => by
            split at p
            · rename_i hc
              rw [Bool.and_eq_true] at hc
              obtain ⟨a', h0', o', ho', rows, rfl, hr⟩ := R4.ow i _ hi4
              rw [h0] at h0'
              cases h0'
              refine .inr ⟨a, rows, ks, vs, kd, y, gG Φ X0 δ4 σ H3, rfl, ho', e1 ▸ hr, fun b vs q => (hid_le _ _).sqT q, fun d v q => q.mono (hid_le _ _), hc.1, of_decide_eq_true hc.2, e1 ▸ v4, e1 ▸ vy, fun rows' hp' => ?_⟩
              obtain ⟨W1, W2⟩ := R4.write hi4 h0 (o' := dicO a rows') (d' := .dic (dput ks vs kd y).1 (dput ks vs kd y).2) ⟨rows', rfl, e1 ▸ hp'⟩
              exact p σ _ W1 (by rw [W2]; exact gall)
            · exact p.elim
          split at p
          · rename_i n ds hi4
            split at p
            · rename_i j hj
              obtain ⟨a', h0', o', ho', vs, rfl, hr⟩ := R4.ow i _ hi4
              rw [h0] at h0'
              cases h0'
              refine .inl ⟨a, vs, n, j, rfl, Rep.int_iff.mp v4, ho', by rw [← hr.length]; exact hj, ?_⟩
              obtain ⟨W1, W2⟩ := R4.write hi4 h0 (o' := .lst (vs.set j v)) (d' := .lst (ds.set j y)) ⟨_, rfl, hr.set j vy⟩
              exact p σ _ W1 (by rw [W2]; exact gall)
            · exact p.elim
          · rename_i ks vs hi4
            exact dic_ _ _ hi4 p
          · exact p.elim
    · exact p.elim
/-! ### raise -/
theorem s_rse {c : Nat} {xs ms : Str} {j : Nat} {p2 : Pos} {bmB : List Value} {B newId initId : String} (hcalm : X.calm = true) (tk : Takes X (Wk ad E)) (F : ExcBaseFacts B newId initId bmB) (q : PySem.W.excIn X.K (ad c) bmB newId = true) (gC : X.mg xs = some (.ref (ad c)))
    (kC : PySem.W.keepIn X.K (.ref (ad c)) = true) (r : Raises X (.ref (ad c))) (hg : Gl X xs) (hx : okNm xs = true) : PS X (.Raise (some (.Call (.Name xs px) [.Constant (.str ms) j p2] [] cpos)) none pos) (rdS (rc X ad) lt E (evS C (.rse c))) := by
  refine PS.imp (ps_raise hcalm tk (pmk_own F q gC kC r hg (okNm_dbg hx))) fun D σ H h => ?_
  obtain ⟨Φ, δ, e1, e2, R0, p⟩ := h
  simp only [evS] at p
  exact ⟨c, rfl, rfl, p σ H R0⟩
end
end EL

set_option Elab.async false
set_option linter.all false
set_option maxRecDepth 100000
set_option maxHeartbeats 1000000
/-! the checker of expressions -/
namespace EL
open PySem PySem.Spec PyProof.Rows L2 RZ
/-- what is known of a text's place: names, scope, the module's names -/
structure Gs where
  N : List Str
  sc : Scope
  fn : Option Scope
  fns : List (Str × Nat)
  gls : List (Str × Nat)
  cls : List (Str × Nat)
  blts : List Str
def Gs.fnB (g : Gs) (x : Str) : Bool := match g.fn with
  | none => true
  | some sc => sc.names.lookup x == some .cell
def Gs.loc (g : Gs) (x : Str) : Bool := match g.sc.names.lookup x with
  | some .local => true
  | some .cell => g.fnB x
  | _ => false
def Gs.slot (g : Gs) (i : Nat) (x : Str) : Bool := g.N[i]? == some x
/-- the place of a comprehension's block -/
def Gs.blk (g : Gs) (scope : Scope) : Gs := { g with sc := relS scope g.sc, fn := some scope }
/-- built-in functions and types by name -/
def bfTab : List (Str × Bf) := [("len", .len), ("abs", .abs), ("max", .max2), ("min", .min2), ("sorted", .sorted), ("sum", .sum), ("any", .any), ("all", .all), ("divmod", .divmod), ("max", .maxL), ("min", .minL), ("isinstance", .isi)]
def btTab : List (Str × Bf) := [("int", .int), ("list", .list), ("tuple", .tuple)]
def tyTab : List (Str × String) := [("int", "int"), ("bool", "bool"), ("str", "str"), ("tuple", "tuple"), ("list", "list"), ("dict", "dict")]
def isNilM : ME → Bool
  | .nil => true
  | _ => false
theorem notNil {m : ME} (h : isNilM m = false) : m ≠ .nil := by
  rintro rfl
  cases h
def noStars (es : List Expr) : Bool := es.all fun e => !isStar e
def Gs.nm (g : Gs) (i : Nat) (x : Str) : Bool := g.slot i x && visB g.sc x && okNm x
def Gs.gl (g : Gs) (x : Str) : Bool := glB g.sc x && okNm x
def tgOk (g : Gs) : List Nat → List Expr → Bool
  | [], [] => true
  | i :: tg, .Name x _ :: es => g.slot i x && g.loc x && tgOk g tg es
  | _, _ => false
/-- a target -/
def chkT (g : Gs) (tg : List Nat) : Expr → Bool
  | .Name x _ => (match tg with | [i] => g.slot i x && g.loc x | _ => false)
  | .Tuple es _ _ => !(tg.length == 1) && tgOk g tg es
  | _ => false
def isTupT : Expr → Bool
  | .Tuple .. => true
  | _ => false
def cstOk (g : Gs) (d : D) : Expr → Bool
  | .Constant c _ _ => (match c, d with
    | .int i, .int j => i == j
    | .bool a, .bl b => a == b
    | .str x, .str y => x == y
    | .none, .non => true
    | _, _ => false)
  | .Name x _ => (match d with
    | .ty n => g.gl x && g.blts.contains x && tyTab.contains (x, n)
    | _ => false)
  | _ => false
def ownOf (N : List Str) (vs : List Nat) : List (Str × Nat) := vs.map fun i => (N.getD i Str.empty, i)
/-- what may stand as a test -/
def tstOk : ME → Bool
  | .ite _ _ _ => false
  | .and a b => tstOk a && tstOk b
  | .or a b => tstOk a && tstOk b
  | .not a => tstOk a
  | _ => true
mutual
def chkE (g : Gs) : ME → Expr → Bool
  | .var i, e => (match e with | .Name x _ => g.nm i x | _ => false)
  | .cst d, e => cstOk g d e
  | .glb k, e => (match e with | .Name x _ => g.gl x && g.gls.contains (x, k) | _ => false)
  | .tup m, e => (match e with | .Tuple es _ _ => chkL g m es | _ => false)
  | .lst m, e => (match e with | .List es _ => chkL g m es | _ => false)
  | .bin o a b, e => (match e with | .BinOp x op y _ => b2B o op && chkE g a x && chkE g b y | _ => false)
  | .neg a, e => (match e with | .UnaryOp .USub x _ => chkE g a x | _ => false)
  | .cmp o a b, e => (match e with | .Compare x [op] [y] _ => c2B o op && !behindInMarks op y && chkE g a x && chkE g b y | _ => false)
  | .chain o o' a b c, e => (match e with | .Compare x [op, op'] [y, z] _ => c2B o op && c2B o' op' && !lastMarks [op, op'] [y, z] && chkE g a x && chkE g b y && chkE g c z | _ => false)
  | .and a b, e => (match e with
    | .BoolOp .And (x :: y :: r) pos => chkE g a x && (if r.isEmpty then chkE g b y else chkE g b (.BoolOp .And (y :: r) pos))
    | _ => false)
  | .or a b, e => (match e with
    | .BoolOp .Or (x :: y :: r) pos => chkE g a x && (if r.isEmpty then chkE g b y else chkE g b (.BoolOp .Or (y :: r) pos))
    | _ => false)
  | .not a, e => (match e with | .UnaryOp .Not x _ => chkE g a x | _ => false)
  | .ite c a b, e => (match e with | .IfExp x y z _ => tstOk c && chkE g c x && chkE g a y && chkE g b z | _ => false)
  | .ix a b, e => (match e with | .Subscript x y _ => !isSliceE y && chkE g a x && chkE g b y | _ => false)
  | .cut a lo hi, e => (match e with
    | .Subscript x (.Slice l h none _) _ => chkE g a x && (match l with | none => isNilM lo | some l => !isNilM lo && chkE g lo l) && (match h with | none => isNilM hi | some h => !isNilM hi && chkE g hi h)
    | _ => false)
  | .call f m, e => (match e with | .Call (.Name x _) es [] _ => g.gl x && g.fns.contains (x, f) && noStars es && chkL g m es | _ => false)
  | .callW f i m, e => (match e with | .Call (.Name x _) (.Name y _ :: es) [] _ => g.gl x && g.fns.contains (x, f) && g.nm i y && noStars es && chkL g m es | _ => false)
  | .blt b m, e => (match e with | .Call (.Name x _) es [] _ => g.gl x && g.blts.contains x && (bfTab.contains (x, b) || btTab.contains (x, b)) && !es.isEmpty && noStars es && chkL g m es | _ => false)
  | .comp vs k src tg t c m, e => (match e with
    | .ListComp elt [⟨tgE, iter, ifs, 0⟩] scope _ => blkC g.N g.sc scope (ownOf g.N vs) && !isSetE iter && chkI g k src iter tgE && chkT (g.blk scope) tg tgE && (if t then (match ifs with | [x] => tstOk c && chkE (g.blk scope) c x | _ => false) else ifs.isEmpty) && chkE (g.blk scope) m elt
    | _ => false)
  | .dic0, e => (match e with | .Dict [] [] _ => true | _ => false)
  | .popv i, e => (match e with | .Call (.Attribute (.Name x _) nm apos) [] [] cpos => nm == ("pop" : Str) && apos.endLine == cpos.line && g.nm i x | _ => false)
  | .popi i k, e => (match e with | .Call (.Attribute (.Name x _) nm apos) [y] [] cpos => nm == ("pop" : Str) && apos.endLine == cpos.line && g.nm i x && !isStar y && chkE g k y | _ => false)
  | _, _ => false
def chkL (g : Gs) : ME → List Expr → Bool
  | .nil, es => es.isEmpty
  | .cons a b, es => (match es with | x :: r => !isStar x && chkE g a x && chkL g b r | _ => false)
  | .rd i b, es => (match es with | .Name x _ :: r => g.nm i x && chkL g b r | _ => false)
  | _, _ => false
/-- what a loop walks -/
def chkI (g : Gs) (k : Sk) : ME → Expr → Expr → Bool
  | .cons a b, e, tgE => (match k with
    | .each => isNilM b && chkE g a e
    | .rng1 => (match e with | .Call (.Name x _) [y] [] _ => x == ("range" : Str) && g.gl x && g.blts.contains x && !isStar y && chkE g a y && isNilM b | _ => false)
    | .rng2 => (match e with | .Call (.Name x _) [y, z] [] _ => x == ("range" : Str) && g.gl x && g.blts.contains x && !isStar y && !isStar z && chkE g a y && chkL g b [z] | _ => false)
    | .zip => (match e with | .Call (.Name x _) [y, z] [] _ => x == ("zip" : Str) && isTupT tgE && g.gl x && g.blts.contains x && !isStar y && !isStar z && chkE g a y && chkL g b [z] | _ => false)
    | .enum => (match e with | .Call (.Name x _) [y] [] _ => x == ("enumerate" : Str) && isTupT tgE && g.gl x && g.blts.contains x && !isStar y && chkE g a y && isNilM b | _ => false)
    | _ => false)
  | _, _, _ => false
end
end EL

set_option Elab.async false
set_option linter.all false
set_option maxRecDepth 100000
set_option maxHeartbeats 1000000
/-! what the checker lets is sound: expressions -/
namespace EL
open PySem PySem.Spec PyProof.Rows L2 RZ
structure Okx (X : Cx) (ad : Nat → Addr) (lt : Bool) (E : Wx) (C : Cn) (g : Gs) : Prop where
  N : X.N = g.N
  nd : X.N.Nodup
  sc : X.env.scope = g.sc
  calm : X.calm = true
  hu : X.A.units + 100 < cLine
  lt : C.lt = lt
  fn : ∀ x, g.fnB x = true → X.fn x = true
  blt : ∀ x, g.blts.contains x = true → X.mg x = none
  fns : ∀ x f, g.fns.contains (x, f) = true → ∃ k fa fd ps, FnOk X.prog X.w X.K X.mg X.base (L2.CX X.prog X.w) k fa fd ps (spF (rc X ad) (C.call f)) ∧ Room k X.A ∧ X.mg x = some (.ref fa) ∧ PySem.W.keepIn X.K (.ref fa) = true ∧ Binds X.K fd ps []
  gls : ∀ x k, g.gls.contains (x, k) = true → ∃ u v, X.mg x = some u ∧ RelV v u ∧ Rep (rc X ad) (fun _ => none) (C.glob k) v
  tk : Takes X (Wk ad E)
section
variable {X : Cx} {ad : Nat → Addr} {lt : Bool} {E : Wx} {C : Cn} {g : Gs}
theorem Okx.blk (O : Okx X ad lt E C g) (s : Shared) (H : Hp) (scope : Scope) (Ca : Addr) (cl : List (Str × Addr)) (fp : List Addr) : Okx (X.blk s H scope (compEnvC scope cl Ca X.env) fp) ad lt Wf C (g.blk scope) where
  N := O.N
  nd := O.nd
  sc := by
    show relabel scope X.env = relS scope g.sc
    rw [← O.sc]
    rfl
  calm := O.calm
  hu := O.hu
  lt := O.lt
  fn := fun x h => h
  blt := O.blt
  fns := O.fns
  gls := O.gls
  tk := fun u s' ⟨a, B, sI, pins, σ, H, cls, d, e, I, nb, up, sky, na, os, ag, c, h1, h2, h3⟩ => h3.elim
theorem Okx.nm (O : Okx X ad lt E C g) {i : Nat} {x : Str} (h : g.nm i x = true) : X.N[i]? = some x ∧ visB X.env.scope x = true ∧ okNm x = true := by
  unfold Gs.nm Gs.slot at h
  simp only [Bool.and_eq_true, beq_iff_eq] at h
  rw [O.N, O.sc]
  exact ⟨h.1.1, h.1.2, h.2⟩
theorem Okx.gl (O : Okx X ad lt E C g) {x : Str} (h : g.gl x = true) : Gl X x ∧ okNm x = true := by
  unfold Gs.gl at h
  rw [Bool.and_eq_true] at h
  exact ⟨gl_of (by rw [O.sc]; exact h.1), h.2⟩
theorem Okx.loc (O : Okx X ad lt E C g) {x : Str} (h : g.loc x = true) : Loc X.env.scope x ∧ (X.fn x = true ∨ X.env.scope.names.lookup x = some .local) := by
  unfold Gs.loc at h
  rw [O.sc]
  split at h
  · rename_i q
    exact ⟨.inl q, .inr q⟩
  · rename_i q
    exact ⟨.inr q, .inl (O.fn x h)⟩
  · cases h
theorem Okx.slot (O : Okx X ad lt E C g) {i : Nat} {x : Str} (h : g.slot i x = true) : X.N[i]? = some x := by
  unfold Gs.slot at h
  rw [O.N]
  simpa using h
theorem tgs_ok (O : Okx X ad lt E C g) : ∀ {tg : List Nat} {es : List Expr}, tgOk g tg es = true → PGs X es (gsOf tg) ∧ (assignEach es X.env).length = tg.length ∧ (assignEach es X.env).findIdx? (·.1) = none
  | [], [], _ => ⟨pgs_nil, rfl, rfl⟩
  | [], _ :: _, h => by simp [tgOk] at h
  | i :: tg, [], h => by simp [tgOk] at h
  | i :: tg, e :: es, h => by
    cases e with
    | Name x p =>
      simp only [tgOk, Bool.and_eq_true] at h
      obtain ⟨h1, h2, h3⟩ := tgs_ok O h.2
      obtain ⟨q1, q2⟩ := O.loc h.1.2
      refine ⟨pgs_cons (pg_name O.nd (O.slot h.1.1) q1 q2) h1 rfl, ?_, ?_⟩
      · show (assignEach es X.env).length + 1 = tg.length + 1
        rw [h2]
      · show List.findIdx? (·.1) ((false, _) :: assignEach es X.env) = none
        rw [List.findIdx?_cons, h3]
        rfl
    | _ => simp [tgOk] at h
theorem chkT_ok (O : Okx X ad lt E C g) {tg : List Nat} {e : Expr} (h : chkT g tg e = true) : PG X e (gOf X.K tg) := by
  cases e with
  | Name x p =>
    simp only [chkT] at h
    split at h
    · rw [Bool.and_eq_true] at h
      obtain ⟨q1, q2⟩ := O.loc h.2
      exact pg_name O.nd (O.slot h.1) q1 q2
    · cases h
  | Tuple es k p =>
    simp only [chkT, Bool.and_eq_true] at h
    obtain ⟨h1, h2, h3⟩ := tgs_ok O h.2
    have := pg_tup (k := k) (pos := p) O.calm h1 h2 h3
    unfold gOf
    split
    · simp at h
    · exact this
  | _ => simp [chkT] at h
theorem tyTab_ok : ∀ p ∈ tyTab, bootBuiltins p.1 = some (.type p.2) := by decide +kernel
theorem cst_ok (O : Okx X ad lt E C g) {d : D} {e : Expr} (h : cstOk g d e = true) : PE X e (rdE (rc X ad) lt E (evE C (.cst d))) ∧ isTestE e = false := by
  cases e with
  | Constant c k p =>
    simp only [cstOk] at h
    split at h
    · rw [beq_iff_eq] at h
      subst h
      exact ⟨e_sc pe_int rfl, rfl⟩
    · rw [beq_iff_eq] at h
      subst h
      exact ⟨e_sc pe_bl rfl, rfl⟩
    · rw [beq_iff_eq] at h
      subst h
      exact ⟨e_sc pe_str rfl, rfl⟩
    · exact ⟨e_sc pe_non rfl, rfl⟩
    · cases h
  | Name x p =>
    simp only [cstOk] at h
    split at h
    · rename_i n
      simp only [Bool.and_eq_true] at h
      obtain ⟨g1, g2⟩ := O.gl h.1.1
      have ht := tyTab_ok (x, n) (by have := h.2; rw [List.contains_iff_mem] at this; exact this)
      exact ⟨e_ty g1 (O.blt x h.1.2) ht g2, rfl⟩
    · cases h
  | _ => simp [cstOk] at h
theorem bfB : ∀ p ∈ bfTab, ∃ id, bootBuiltins p.1 = some (.builtin id) ∧ ((p.2 = .len ∧ id = "len") ∨ (p.2 = .abs ∧ id = "abs") ∨ (p.2 = .max2 ∧ id = "max") ∨ (p.2 = .min2 ∧ id = "min") ∨ (p.2 = .sorted ∧ id = "sorted") ∨ (p.2 = .sum ∧ id = "sum") ∨
    (p.2 = .any ∧ id = "any") ∨ (p.2 = .all ∧ id = "all") ∨ (p.2 = .divmod ∧ id = "divmod") ∨ (p.2 = .maxL ∧ id = "max") ∨ (p.2 = .minL ∧ id = "min") ∨ (p.2 = .isi ∧ id = "isinstance")) := by
  intro p hp
  simp only [bfTab, List.mem_cons, List.not_mem_nil, or_false] at hp
  rcases hp with rfl | rfl | rfl | rfl | rfl | rfl | rfl | rfl | rfl | rfl | rfl | rfl
  · exact ⟨"len", by decide +kernel, by simp⟩
  · exact ⟨"abs", by decide +kernel, by simp⟩
  · exact ⟨"max", by decide +kernel, by simp⟩
  · exact ⟨"min", by decide +kernel, by simp⟩
  · exact ⟨"sorted", by decide +kernel, by simp⟩
  · exact ⟨"sum", by decide +kernel, by simp⟩
  · exact ⟨"any", by decide +kernel, by simp⟩
  · exact ⟨"all", by decide +kernel, by simp⟩
  · exact ⟨"divmod", by decide +kernel, by simp⟩
  · exact ⟨"max", by decide +kernel, by simp⟩
  · exact ⟨"min", by decide +kernel, by simp⟩
  · exact ⟨"isinstance", by decide +kernel, by simp⟩
theorem btB : ∀ p ∈ btTab, ∃ T, bootBuiltins p.1 = some (.type T) ∧ ((p.2 = .int ∧ T = "int") ∨ (p.2 = .list ∧ T = "list") ∨ (p.2 = .tuple ∧ T = "tuple")) := by
  intro p hp
  simp only [btTab, List.mem_cons, List.not_mem_nil, or_false] at hp
  rcases hp with rfl | rfl | rfl
  · exact ⟨"int", by decide +kernel, by simp⟩
  · exact ⟨"list", by decide +kernel, by simp⟩
  · exact ⟨"tuple", by decide +kernel, by simp⟩
theorem blt_ok (O : Okx X ad lt E C g) {b : Bf} {x : Str} {p pos : Pos} {e : Expr} {es : List Expr} {m : ME} (h : (bfTab.contains (x, b) || btTab.contains (x, b)) = true) (hb : g.blts.contains x = true) (hg : g.gl x = true) (ha : PA X (e :: es) (rdA (rc X ad) lt E (evL C m))) (hs : noStars (e :: es) = true) :
    PE X (.Call (.Name x p) (e :: es) [] pos) (rdE (rc X ad) lt E (evE C (.blt b m))) := by
  obtain ⟨g1, g2⟩ := O.gl hg
  have hm := O.blt x hb
  rw [Bool.or_eq_true, List.contains_iff_mem, List.contains_iff_mem] at h
  rcases h with h | h
  · obtain ⟨id, hv, hid⟩ := bfB _ h
    simp only at hv hid
    rcases hid with ⟨rfl, rfl⟩ | ⟨rfl, rfl⟩ | ⟨rfl, rfl⟩ | ⟨rfl, rfl⟩ | ⟨rfl, rfl⟩ | ⟨rfl, rfl⟩ | ⟨rfl, rfl⟩ | ⟨rfl, rfl⟩ | ⟨rfl, rfl⟩ | ⟨rfl, rfl⟩ | ⟨rfl, rfl⟩ | ⟨rfl, rfl⟩
    · exact e_bltF cr_lenD (b_len (ad := ad)) g1 hm hv ha g2 hs
    · exact e_bltF call_abs b_abs g1 hm hv ha g2 hs
    · exact e_bltF (call_max2 O.calm) b_max2 g1 hm hv ha g2 hs
    · exact e_bltF (call_min2 O.calm) b_min2 g1 hm hv ha g2 hs
    · exact e_bltF (cr_sortD O.calm O.hu) (b_sorted (ad := ad)) g1 hm hv ha g2 hs
    · exact e_bltF (cr_sum O.calm) b_sum g1 hm hv ha g2 hs
    · exact e_bltF (cr_any O.calm) b_any g1 hm hv ha g2 hs
    · exact e_bltF (cr_all O.calm) b_all g1 hm hv ha g2 hs
    · exact e_bltF call_divmodW b_divmod g1 hm hv ha g2 hs
    · exact e_bltF (cr_max O.calm) b_maxL g1 hm hv ha g2 hs
    · exact e_bltF (cr_min O.calm) b_minL g1 hm hv ha g2 hs
    · exact e_bltF cr_isD (b_isi (ad := ad)) g1 hm hv ha g2 hs
  · obtain ⟨T, hv, hT⟩ := btB _ h
    simp only at hv hT
    rcases hT with ⟨rfl, rfl⟩ | ⟨rfl, rfl⟩ | ⟨rfl, rfl⟩
    · exact e_bltT call_int1 b_int g1 hm hv ha g2 hs
    · exact e_bltT call_list_of b_list g1 hm hv ha g2 hs
    · exact e_bltT call_tuple_of b_tuple g1 hm hv ha g2 hs
end
end EL

set_option Elab.async false
set_option linter.all false
set_option maxRecDepth 100000
set_option maxHeartbeats 2000000
/-! what the checker lets is sound: expressions, all -/
namespace EL
open PySem PySem.Spec PyProof.Rows L2 RZ
section
variable {ad : Nat → Addr} {lt : Bool} {C : Cn}
theorem e_dic0 {X : Cx} {E : Wx} {pos : Pos} : PE X (.Dict [] [] pos) (rdE (rc X ad) lt E (evE C .dic0)) := by
  refine PE.imp pe_dnewD fun σ H Q h => ?_
  obtain ⟨Φ, δ, e1, e2, R0, p⟩ := h
  simp only [evE] at p
  intro q hq
  obtain ⟨r1, g1⟩ := R0.temp (o := dicO q []) hq
  exact p _ _ ⟨q, rfl, r1, g1, _, upd_same, [], rfl, dicP_nil⟩
theorem own_map (N : List Str) : ∀ vs : List Nat, (ownOf N vs).map (·.2) = vs
  | [] => rfl
  | v :: vs => by
    show v :: (ownOf N vs).map (·.2) = v :: vs
    rw [own_map N vs]
/-- what the checker's yes gives -/
def Snd (X : Cx) (ad : Nat → Addr) (lt : Bool) (E : Wx) (C : Cn) (m : ME) (e : Expr) : Prop :=
  PE X e (rdE (rc X ad) lt E (evE C m)) ∧ (tstOk m = true → PT X e (rdT (rc X ad) lt E (evT (evE C m)))) ∧ (tstOk m = true → ∀ op es pos, e = .BoolOp op es pos → PW X e (rdT (rc X ad) lt E (evT (evE C m))))
theorem Snd.plain {X : Cx} {E : Wx} {m : ME} {e : Expr} (h : PE X e (rdE (rc X ad) lt E (evE C m))) (ht : isTestE e = false) : Snd X ad lt E C m e :=
  ⟨h, fun _ => t_val h ht, fun _ op es pos q => by subst q; cases ht⟩
theorem isNil_eq {m : ME} (h : isNilM m = true) : m = .nil := by
  cases m <;> first | rfl | cases h
theorem gB {X : Cx} {x : Str} (h : Gl X x) : glB X.env.scope x = true := by
  have h : X.env.scope.names.lookup x = some .globalImplicit := h
  unfold glB
  rw [h]
theorem nostar1 {e : Expr} (h : (!isStar e) = true) : isStar e = false := by simpa using h
mutual
theorem chkE_ok : ∀ (m : ME) {X : Cx} {E : Wx} {g : Gs} (e : Expr), Okx X ad lt E C g → chkE g m e = true → Snd X ad lt E C m e
  | .var i, X, E, g, e, O, h => by
    simp only [chkE] at h
    split at h
    · obtain ⟨h1, h2, h3⟩ := O.nm h
      exact .plain (e_var h1 h2 h3) rfl
    · cases h
  | .cst d, X, E, g, e, O, h => by
    simp only [chkE] at h
    obtain ⟨h1, h2⟩ := cst_ok O h
    exact .plain h1 h2
  | .glb k, X, E, g, e, O, h => by
    simp only [chkE] at h
    split at h
    · rw [Bool.and_eq_true] at h
      obtain ⟨h1, h2⟩ := O.gl h.1
      obtain ⟨u, v, q1, q2, q3⟩ := O.gls _ _ h.2
      exact .plain (e_glb (gB h1) q1 q2 q3 h2) rfl
    · cases h
  | .nil, X, E, g, e, O, h => by simp [chkE] at h
  | .cons _ _, X, E, g, e, O, h => by simp [chkE] at h
  | .rd _ _, X, E, g, e, O, h => by simp [chkE] at h
  | .tup m, X, E, g, e, O, h => by
    simp only [chkE] at h
    split at h
    · exact .plain (e_tup (chkL_ok m _ O h)) rfl
    · cases h
  | .lst m, X, E, g, e, O, h => by
    simp only [chkE] at h
    split at h
    · exact .plain (e_lst (chkL_ok m _ O h)) rfl
    · cases h
  | .bin o a b, X, E, g, e, O, h => by
    simp only [chkE] at h
    split at h
    · simp only [Bool.and_eq_true] at h
      exact .plain (e_bin h.1.1 (chkE_ok a _ O h.1.2).1 (chkE_ok b _ O h.2).1) rfl
    · cases h
  | .neg a, X, E, g, e, O, h => by
    simp only [chkE] at h
    split at h
    · exact .plain (e_neg (chkE_ok a _ O h).1) rfl
    · cases h
  | .cmp o a b, X, E, g, e, O, h => by
    simp only [chkE] at h
    split at h
    · simp only [Bool.and_eq_true, Bool.not_eq_true'] at h
      have ha := (chkE_ok a _ O h.1.2).1
      have hb := (chkE_ok b _ O h.2).1
      exact ⟨e_cmp O.hu h.1.1.1 h.1.1.2 ha hb, fun _ => t_cmp O.hu h.1.1.1 h.1.1.2 ha hb, fun _ _ _ _ q => by cases q⟩
    · cases h
  | .chain o o' a b c, X, E, g, e, O, h => by
    simp only [chkE] at h
    split at h
    · simp only [Bool.and_eq_true, Bool.not_eq_true'] at h
      have ha := (chkE_ok a _ O h.1.1.2).1
      have hb := (chkE_ok b _ O h.1.2).1
      have hc := (chkE_ok c _ O h.2).1
      exact ⟨e_chain O.hu h.1.1.1.1.1 h.1.1.1.1.2 ha hb hc h.1.1.1.2, fun _ => t_chain O.hu h.1.1.1.1.1 h.1.1.1.1.2 ha hb hc h.1.1.1.2, fun _ _ _ _ q => by cases q⟩
    · cases h
  | .and a b, X, E, g, e, O, h => by
    simp only [chkE] at h
    split at h
    · rename_i x y r pos
      rw [Bool.and_eq_true] at h
      have ha := chkE_ok a _ O h.1
      have h2 := h.2
      split at h2
      · rename_i hr
        have hr : r = [] := by simpa using hr
        subst hr
        have hb := chkE_ok b _ O h2
        refine ⟨e_and ha.1 (pe_one hb.1), fun t => ?_, fun t op es pos q => ?_⟩
        · simp only [tstOk, Bool.and_eq_true] at t
          exact (w_and (ha.2.1 t.1) (pw_and1 (hb.2.1 t.2))).pt
        · simp only [tstOk, Bool.and_eq_true] at t
          exact w_and (ha.2.1 t.1) (pw_and1 (hb.2.1 t.2))
      · have hb := chkE_ok b _ O h2
        refine ⟨e_and ha.1 hb.1, fun t => ?_, fun t op es pos q => ?_⟩
        · simp only [tstOk, Bool.and_eq_true] at t
          exact (w_and (ha.2.1 t.1) (hb.2.2 t.2 _ _ _ rfl)).pt
        · simp only [tstOk, Bool.and_eq_true] at t
          exact w_and (ha.2.1 t.1) (hb.2.2 t.2 _ _ _ rfl)
    · cases h
  | .or a b, X, E, g, e, O, h => by
    simp only [chkE] at h
    split at h
    · rename_i x y r pos
      rw [Bool.and_eq_true] at h
      have ha := chkE_ok a _ O h.1
      have h2 := h.2
      split at h2
      · rename_i hr
        have hr : r = [] := by simpa using hr
        subst hr
        have hb := chkE_ok b _ O h2
        refine ⟨e_or ha.1 (pe_one hb.1), fun t => ?_, fun t op es pos q => ?_⟩
        · simp only [tstOk, Bool.and_eq_true] at t
          exact (w_or (ha.2.1 t.1) (pw_or1 (hb.2.1 t.2))).pt
        · simp only [tstOk, Bool.and_eq_true] at t
          exact w_or (ha.2.1 t.1) (pw_or1 (hb.2.1 t.2))
      · have hb := chkE_ok b _ O h2
        refine ⟨e_or ha.1 hb.1, fun t => ?_, fun t op es pos q => ?_⟩
        · simp only [tstOk, Bool.and_eq_true] at t
          exact (w_or (ha.2.1 t.1) (hb.2.2 t.2 _ _ _ rfl)).pt
        · simp only [tstOk, Bool.and_eq_true] at t
          exact w_or (ha.2.1 t.1) (hb.2.2 t.2 _ _ _ rfl)
    · cases h
  | .not a, X, E, g, e, O, h => by
    simp only [chkE] at h
    split at h
    · have ha := chkE_ok a _ O h
      exact ⟨e_not ha.1, fun t => t_not (ha.2.1 (by simpa only [tstOk] using t)), fun _ _ _ _ q => by cases q⟩
    · cases h
  | .ite c a b, X, E, g, e, O, h => by
    simp only [chkE] at h
    split at h
    · simp only [Bool.and_eq_true] at h
      have hc := chkE_ok c _ O h.1.1.2
      refine ⟨e_ite (hc.2.1 h.1.1.1) (chkE_ok a _ O h.1.2).1 (chkE_ok b _ O h.2).1, fun t => ?_, fun _ _ _ _ q => by cases q⟩
      simp [tstOk] at t
    · cases h
  | .ix a b, X, E, g, e, O, h => by
    simp only [chkE] at h
    split at h
    · simp only [Bool.and_eq_true, Bool.not_eq_true'] at h
      exact .plain (e_ix O.hu h.1.1 (chkE_ok a _ O h.1.2).1 (chkE_ok b _ O h.2).1) rfl
    · cases h
  | .cut a lo hi, X, E, g, e, O, h => by
    simp only [chkE] at h
    split at h
    · rename_i x l hh p2 pos
      simp only [Bool.and_eq_true] at h
      have ha := (chkE_ok a _ O h.1.1).1
      have h2 := h.1.2
      have h3 := h.2
      cases l with
      | none =>
        cases hh with
        | none =>
          simp only at h2 h3
          have e1 : lo = .nil := isNil_eq h2
          have e2 : hi = .nil := isNil_eq h3
          subst e1 e2
          exact .plain (e_cut00 ha) rfl
        | some z =>
          simp only [Bool.and_eq_true, Bool.not_eq_true'] at h2 h3
          have e1 : lo = .nil := isNil_eq h2
          subst e1
          exact .plain (e_cut01 (notNil h3.1) ha (chkE_ok hi _ O h3.2).1) rfl
      | some y =>
        cases hh with
        | none =>
          simp only [Bool.and_eq_true, Bool.not_eq_true'] at h2 h3
          have e2 : hi = .nil := isNil_eq h3
          subst e2
          exact .plain (e_cut10 (notNil h2.1) ha (chkE_ok lo _ O h2.2).1) rfl
        | some z =>
          simp only [Bool.and_eq_true, Bool.not_eq_true'] at h2 h3
          exact .plain (e_cut11 (notNil h2.1) (notNil h3.1) ha (chkE_ok lo _ O h2.2).1 (chkE_ok hi _ O h3.2).1) rfl
    · cases h
  | .rev _, X, E, g, e, O, h => by simp [chkE] at h
  | .call f m, X, E, g, e, O, h => by
    simp only [chkE] at h
    split at h
    · rename_i x p es pos
      simp only [Bool.and_eq_true] at h
      obtain ⟨g1, g2⟩ := O.gl h.1.1.1
      obtain ⟨k, fa, fd, ps, F, hr, hm, hk, hb⟩ := O.fns _ _ h.1.1.2
      have ha := chkL_ok m es O h.2
      cases es with
      | nil =>
        have hnil : m = .nil := by
          cases m <;> simp [chkL] at h
          rfl
        subst hnil
        exact .plain (e_call0 F hr g1 hm hk hb O.tk g2) rfl
      | cons e1 es => exact .plain (e_call F hr g1 hm hk hb O.tk ha g2 h.1.2) rfl
    · cases h
  | .callW f i m, X, E, g, e, O, h => by
    simp only [chkE] at h
    split at h
    · simp only [Bool.and_eq_true] at h
      obtain ⟨g1, g2⟩ := O.gl h.1.1.1.1
      obtain ⟨k, fa, fd, ps, F, hr, hm, hk, hb⟩ := O.fns _ _ h.1.1.1.2
      obtain ⟨n1, n2, n3⟩ := O.nm h.1.1.2
      exact .plain (e_callW O.lt F hr g1 hm hk hb O.tk n1 n2 n3 (chkL_ok m _ O h.2) g2 h.1.2) rfl
    · cases h
  | .blt b m, X, E, g, e, O, h => by
    simp only [chkE] at h
    split at h
    · rename_i x p es pos
      simp only [Bool.and_eq_true, Bool.not_eq_true'] at h
      have ha := chkL_ok m es O h.2
      cases es with
      | nil => simp at h
      | cons e1 es => exact .plain (blt_ok O h.1.1.1.2 h.1.1.1.1.2 h.1.1.1.1.1 ha h.1.2) rfl
    · cases h
  | .comp vs k src tg t c m, X, E, g, e, O, h => by
    simp only [chkE] at h
    split at h
    · rename_i elt tgE iter ifs scope pos
      simp only [Bool.and_eq_true, Bool.not_eq_true'] at h
      obtain ⟨⟨⟨⟨⟨h1, h2⟩, h3⟩, h4⟩, h5⟩, h6⟩ := h
      have hi := chkI_ok k src iter tgE O h3
      have hbl : BlkOk X.N X.env.scope scope (ownOf g.N vs) := by
        rw [O.N, O.sc]
        exact blkOk_by h1
      have hcomp := e_comp (E := E) (pos := pos) (m := m) (c := c) (t := t) (ifs := ifs) O.lt O.calm O.nd hi hbl (fun s H Ca cl fp => chkT_ok (O.blk s H scope Ca cl fp) h4) (fun s H Ca cl fp => by
        have Ob := O.blk s H scope Ca cl fp
        unfold rdC
        cases t with
        | false =>
          simp only [Bool.false_eq_true, if_false] at h5 ⊢
          have : ifs = [] := by simpa using h5
          subst this
          exact pts_nil
        | true =>
          simp only [if_true] at h5 ⊢
          split at h5
          · rw [Bool.and_eq_true] at h5
            exact pts_one ((chkE_ok c _ Ob h5.2).2.1 h5.1)
          · cases h5) (fun s H Ca cl fp => (chkE_ok m _ (O.blk s H scope Ca cl fp) h6).1) h2
      rw [own_map] at hcomp
      exact .plain hcomp rfl
    · cases h
  | .dic0, X, E, g, e, O, h => by
    simp only [chkE] at h
    split at h
    · exact .plain e_dic0 rfl
    · cases h
  | .popv i, X, E, g, e, O, h => by
    simp only [chkE] at h
    split at h
    · simp only [Bool.and_eq_true, beq_iff_eq] at h
      obtain ⟨⟨rfl, h2⟩, h3⟩ := h
      obtain ⟨n1, n2, n3⟩ := O.nm h3
      exact .plain (e_popv n1 n2 n3 (by rw [h2]; exact beq_self_eq_true _)) rfl
    · cases h
  | .popi i k, X, E, g, e, O, h => by
    simp only [chkE] at h
    split at h
    · simp only [Bool.and_eq_true, beq_iff_eq] at h
      obtain ⟨⟨⟨⟨rfl, h2⟩, h3⟩, h4⟩, h5⟩ := h
      obtain ⟨n1, n2, n3⟩ := O.nm h3
      exact .plain (e_popi O.hu O.lt n1 n2 n3 (chkE_ok k _ O h5).1 (by rw [h2]; exact beq_self_eq_true _) (nostar1 h4)) rfl
    · cases h
  | .dget _ _ _, X, E, g, e, O, h => by simp [chkE] at h
theorem chkL_ok : ∀ (m : ME) {X : Cx} {E : Wx} {g : Gs} (es : List Expr), Okx X ad lt E C g → chkL g m es = true → PA X es (rdA (rc X ad) lt E (evL C m))
  | .nil, X, E, g, es, O, h => by
    simp only [chkL] at h
    have : es = [] := by simpa using h
    subst this
    exact a_nil
  | .cons a b, X, E, g, es, O, h => by
    simp only [chkL] at h
    split at h
    · simp only [Bool.and_eq_true] at h
      exact a_cons O.lt (chkE_ok a _ O h.1.2).1 (chkL_ok b _ O h.2) (nostar1 h.1.1)
    · cases h
  | .rd i b, X, E, g, es, O, h => by
    simp only [chkL] at h
    split at h
    · simp only [Bool.and_eq_true] at h
      obtain ⟨h1, h2, h3⟩ := O.nm h.1
      exact a_rd h1 h2 h3 (chkL_ok b _ O h.2)
    · cases h
  | .var _, X, E, g, es, O, h => by simp [chkL] at h
  | .cst _, X, E, g, es, O, h => by simp [chkL] at h
  | .glb _, X, E, g, es, O, h => by simp [chkL] at h
  | .tup _, X, E, g, es, O, h => by simp [chkL] at h
  | .lst _, X, E, g, es, O, h => by simp [chkL] at h
  | .bin _ _ _, X, E, g, es, O, h => by simp [chkL] at h
  | .neg _, X, E, g, es, O, h => by simp [chkL] at h
  | .cmp _ _ _, X, E, g, es, O, h => by simp [chkL] at h
  | .chain _ _ _ _ _, X, E, g, es, O, h => by simp [chkL] at h
  | .and _ _, X, E, g, es, O, h => by simp [chkL] at h
  | .or _ _, X, E, g, es, O, h => by simp [chkL] at h
  | .not _, X, E, g, es, O, h => by simp [chkL] at h
  | .ite _ _ _, X, E, g, es, O, h => by simp [chkL] at h
  | .ix _ _, X, E, g, es, O, h => by simp [chkL] at h
  | .cut _ _ _, X, E, g, es, O, h => by simp [chkL] at h
  | .rev _, X, E, g, es, O, h => by simp [chkL] at h
  | .call _ _, X, E, g, es, O, h => by simp [chkL] at h
  | .callW _ _ _, X, E, g, es, O, h => by simp [chkL] at h
  | .blt _ _, X, E, g, es, O, h => by simp [chkL] at h
  | .comp _ _ _ _ _ _ _, X, E, g, es, O, h => by simp [chkL] at h
  | .dic0, X, E, g, es, O, h => by simp [chkL] at h
  | .popv _, X, E, g, es, O, h => by simp [chkL] at h
  | .popi _ _, X, E, g, es, O, h => by simp [chkL] at h
  | .dget _ _ _, X, E, g, es, O, h => by simp [chkL] at h
theorem chkI_ok : ∀ (k : Sk) (m : ME) {X : Cx} {E : Wx} {g : Gs} (e tgE : Expr), Okx X ad lt E C g → chkI g k m e tgE = true → PI X tgE e (rdI (rc X ad) lt E (srcF C k m))
  | k, .cons a b, X, E, g, e, tgE, O, h => by
    simp only [chkI] at h
    cases k with
    | each =>
      simp only [Bool.and_eq_true] at h
      have e1 : b = .nil := isNil_eq h.1
      subst e1
      exact i_each O.lt (chkE_ok a _ O h.2).1
    | rng1 =>
      simp only at h
      split at h
      · simp only [Bool.and_eq_true, beq_iff_eq] at h
        obtain ⟨⟨⟨⟨⟨rfl, h1⟩, h2⟩, h3⟩, h4⟩, h5⟩ := h
        have e1 : b = .nil := isNil_eq h5
        subst e1
        have st := nostar1 h3
        exact i_rng1 (O.gl h1).1 (O.blt _ h2) (a_cons O.lt (chkE_ok a _ O h4).1 a_nil st) st
      · cases h
    | rng2 =>
      simp only at h
      split at h
      · simp only [Bool.and_eq_true, beq_iff_eq] at h
        obtain ⟨⟨⟨⟨⟨⟨rfl, h1⟩, h2⟩, h3⟩, h4⟩, h5⟩, h6⟩ := h
        exact i_rng2 (O.gl h1).1 (O.blt _ h2) (a_cons O.lt (chkE_ok a _ O h5).1 (chkL_ok b _ O h6) (nostar1 h3)) (nostar1 h3) (nostar1 h4)
      · cases h
    | zip =>
      simp only at h
      split at h
      · simp only [Bool.and_eq_true, beq_iff_eq] at h
        obtain ⟨⟨⟨⟨⟨⟨⟨rfl, h0⟩, h1⟩, h2⟩, h3⟩, h4⟩, h5⟩, h6⟩ := h
        cases tgE with
        | Tuple elts kk tpos => exact i_zip (O.gl h1).1 (O.blt _ h2) (a_cons O.lt (chkE_ok a _ O h5).1 (chkL_ok b _ O h6) (nostar1 h3)) (nostar1 h3) (nostar1 h4)
        | _ => cases h0
      · cases h
    | enum =>
      simp only at h
      split at h
      · simp only [Bool.and_eq_true, beq_iff_eq] at h
        obtain ⟨⟨⟨⟨⟨⟨rfl, h0⟩, h1⟩, h2⟩, h3⟩, h4⟩, h5⟩ := h
        have e1 : b = .nil := isNil_eq h5
        subst e1
        have st := nostar1 h3
        cases tgE with
        | Tuple elts kk tpos => exact i_enum (O.gl h1).1 (O.blt _ h2) (a_cons O.lt (chkE_ok a _ O h4).1 a_nil st) st
        | _ => cases h0
      · cases h
    | _ => cases h
  | k, .nil, X, E, g, e, tgE, O, h => by simp [chkI] at h
  | k, .rd _ _, X, E, g, e, tgE, O, h => by simp [chkI] at h
  | k, .var _, X, E, g, e, tgE, O, h => by simp [chkI] at h
  | k, .cst _, X, E, g, e, tgE, O, h => by simp [chkI] at h
  | k, .glb _, X, E, g, e, tgE, O, h => by simp [chkI] at h
  | k, .tup _, X, E, g, e, tgE, O, h => by simp [chkI] at h
  | k, .lst _, X, E, g, e, tgE, O, h => by simp [chkI] at h
  | k, .bin _ _ _, X, E, g, e, tgE, O, h => by simp [chkI] at h
  | k, .neg _, X, E, g, e, tgE, O, h => by simp [chkI] at h
  | k, .cmp _ _ _, X, E, g, e, tgE, O, h => by simp [chkI] at h
  | k, .chain _ _ _ _ _, X, E, g, e, tgE, O, h => by simp [chkI] at h
  | k, .and _ _, X, E, g, e, tgE, O, h => by simp [chkI] at h
  | k, .or _ _, X, E, g, e, tgE, O, h => by simp [chkI] at h
  | k, .not _, X, E, g, e, tgE, O, h => by simp [chkI] at h
  | k, .ite _ _ _, X, E, g, e, tgE, O, h => by simp [chkI] at h
  | k, .ix _ _, X, E, g, e, tgE, O, h => by simp [chkI] at h
  | k, .cut _ _ _, X, E, g, e, tgE, O, h => by simp [chkI] at h
  | k, .rev _, X, E, g, e, tgE, O, h => by simp [chkI] at h
  | k, .call _ _, X, E, g, e, tgE, O, h => by simp [chkI] at h
  | k, .callW _ _ _, X, E, g, e, tgE, O, h => by simp [chkI] at h
  | k, .blt _ _, X, E, g, e, tgE, O, h => by simp [chkI] at h
  | k, .comp _ _ _ _ _ _ _, X, E, g, e, tgE, O, h => by simp [chkI] at h
  | k, .dic0, X, E, g, e, tgE, O, h => by simp [chkI] at h
  | k, .popv _, X, E, g, e, tgE, O, h => by simp [chkI] at h
  | k, .popi _ _, X, E, g, e, tgE, O, h => by simp [chkI] at h
  | k, .dget _ _ _, X, E, g, e, tgE, O, h => by simp [chkI] at h
end
end
end EL

set_option Elab.async false
set_option linter.all false
set_option maxRecDepth 100000
set_option maxHeartbeats 2000000
/-! the checker of statements, the text as a whole -/
namespace EL
open PySem PySem.Spec PyProof.Rows L2 RZ
/-- name = [..] on one line -/
def compOk (g : Gs) (x : Str) (px : Pos) : ME → Expr → Bool
  | .comp _ _ _ _ _ _ _, .ListComp _ _ scope pos => (g.sc.names.lookup x == some .local) && px.line == pos.line && !(scope.names.any fun (n, k) => n == x && (k == .local || k == .cell))
  | _, _ => false
mutual
def chkS (g : Gs) : MS → Stmt → Bool
  | .skip, s => (match s with | .Pass _ => true | .Expr (.Constant (.str _) _ _) _ => true | _ => false)
  | .asg i m, s => (match s with | .Assign [.Name x px] e _ => g.slot i x && g.loc x && chkE g m e && (!isCompE e || compOk g x px m e) | _ => false)
  | .unp tg m, s => (match s with | .Assign [.Tuple elts k pt] e _ => !isCompE e && !isTupE e && chkT g tg (.Tuple elts k pt) && chkE g m e | _ => false)
  | .setx i k m, s => (match s with | .Assign [.Subscript (.Name x _) ke _] e _ => g.nm i x && !isSliceE ke && !isCompE e && chkE g k ke && chkE g m e | _ => false)
  | .aug i o m, s => (match s with | .AugAssign (.Name x _) op e _ => op2 o op && g.slot i x && g.loc x && chkE g m e | _ => false)
  | .app i m, s => (match s with | .Expr (.Call (.Attribute (.Name x _) nm apos) [y] [] cpos) _ => nm == ("append" : Str) && apos.endLine == cpos.line && g.nm i x && !isStar y && chkE g m y | _ => false)
  | .expr m, s => (match s with | .Expr e _ => !isCompE e && chkE g m e | _ => false)
  | .ret m, s => (match s with | .Return (some e) _ => chkE g m e | _ => false)
  | .retN, s => (match s with | .Return none _ => true | _ => false)
  | .iff c a b, s => (match s with | .If e p q _ => tstOk c && chkE g c e && chkSs g a p && chkSs g b q | _ => false)
  | .loop k src tg b, s => (match s with | .For tgE iter body [] _ => !isSetE iter && chkI g k src iter tgE && chkT g tg tgE && chkSs g b body | _ => false)
  | .whl c b, s => (match s with | .While e body [] _ => tstOk c && chkE g c e && chkSs g b body | _ => false)
  | .brk, s => (match s with | .Break _ => true | _ => false)
  | .cont, s => (match s with | .Continue _ => true | _ => false)
  | .rse c, s => (match s with | .Raise (some (.Call (.Name x _) [.Constant (.str _) _ _] [] _)) none _ => g.gl x && g.cls.contains (x, c) | _ => false)
  | _, _ => false
def chkSs (g : Gs) : MS → List Stmt → Bool
  | .skip, ss => ss.isEmpty
  | .seq a b, ss => (match ss with | s :: r => chkS g a s && chkSs g b r | _ => false)
  | _, _ => false
end
/-- a class of the text's own that is raised -/
structure ClsOk (P : Program) (w : World) (K : PySem.W.Frag) (mg : Str → Option Value) (x : Str) (a : Addr) : Prop where
  m : mg x = some (.ref a)
  k : PySem.W.keepIn K (.ref a) = true
  x : ∃ (bmB : List Value) (B newId initId : String), ExcBaseFacts B newId initId bmB ∧ PySem.W.excIn K a bmB newId = true
  b : PySem.W.subIn K (.ref a) (.type "BaseException") = some true
  t : PySem.W.typeIn K (.ref a) = some (.type "type")
structure Oks (X : Cx) (ad : Nat → Addr) (lt : Bool) (E : Wx) (C : Cn) (g : Gs) : Prop extends Okx X ad lt E C g where
  pass : PassesOwn (model X.prog X.w) X.A X.env X.xe
  cls : ∀ x c, g.cls.contains (x, c) = true → ClsOk X.prog X.w X.K X.mg x (ad c)
section
variable {ad : Nat → Addr} {lt : Bool} {C : Cn} {X : Cx} {E : Wx} {g : Gs}
theorem asgC_ok (O : Oks X ad lt E C g) {i : Nat} {m : ME} {x : Str} {px pos : Pos} {e : Expr} (h0 : g.slot i x = true) (h : chkE g m e = true) (hc : compOk g x px m e = true) : PS X (.Assign [.Name x px] e pos) (rdS (rc X ad) lt E (evS C (.asg i m))) := by
  have O' := O.toOkx
  unfold compOk at hc
  split at hc
  · rename_i vs k src tg t c m elt gens scope cpos
    simp only [chkE] at h
    split at h
    · rename_i elt' tgE iter ifs scope' pos' he
      cases he
      simp only [Bool.and_eq_true, Bool.not_eq_true'] at h hc
      obtain ⟨⟨⟨⟨⟨h1, h2⟩, h3⟩, h4⟩, h5⟩, h6⟩ := h
      obtain ⟨⟨c1, c2⟩, c3⟩ := hc
      have hi := chkI_ok k src iter tgE O' h3
      have hbl : BlkOk X.N X.env.scope scope (ownOf g.N vs) := by
        rw [O'.N, O'.sc]
        exact blkOk_by h1
      have hcomp := s_asgC (E := E) (pos := cpos) (spos := pos) (py := px) (m := m) (c := c) (t := t) (ifs := ifs) O'.lt O'.calm O'.nd (O'.slot h0) (by rw [O'.sc]; exact beq_iff_eq.mp c1) c2 c3 hi hbl (fun s H Ca cl fp => chkT_ok (O'.blk s H scope Ca cl fp) h4) (fun s H Ca cl fp => by
        have Ob := O'.blk s H scope Ca cl fp
        unfold rdC
        cases t with
        | false =>
          simp only [Bool.false_eq_true, if_false] at h5 ⊢
          have : ifs = [] := by simpa using h5
          subst this
          exact pts_nil
        | true =>
          simp only [if_true] at h5 ⊢
          split at h5
          · rw [Bool.and_eq_true] at h5
            exact pts_one ((chkE_ok c _ Ob h5.2).2.1 h5.1)
          · cases h5) (fun s H Ca cl fp => (chkE_ok m _ (O'.blk s H scope Ca cl fp) h6).1) h2
      rw [own_map] at hcomp
      exact hcomp
    · cases h
  · cases hc
mutual
theorem chkS_ok : ∀ (m : MS) (s : Stmt), Oks X ad lt E C g → chkS g m s = true → PS X s (rdS (rc X ad) lt E (evS C m))
  | .skip, s, O, h => by
    simp only [chkS] at h
    split at h
    · exact s_pass
    · exact s_doc
    · cases h
  | .asg i m, s, O, h => by
    have O' := O.toOkx
    simp only [chkS] at h
    split at h
    · simp only [Bool.and_eq_true, Bool.or_eq_true, Bool.not_eq_true'] at h
      obtain ⟨⟨⟨h1, h2⟩, h3⟩, h4⟩ := h
      obtain ⟨q1, q2⟩ := O'.loc h2
      rcases h4 with h4 | h4
      · exact s_asg O'.lt O'.nd (O'.slot h1) q1 (chkE_ok m _ O' h3).1 h4 q2
      · exact asgC_ok O h1 h3 h4
    · cases h
  | .unp tg m, s, O, h => by
    have O' := O.toOkx
    simp only [chkS] at h
    split at h
    · simp only [Bool.and_eq_true, Bool.not_eq_true'] at h
      exact s_unp O'.lt (chkE_ok m _ O' h.2).1 (chkT_ok O' h.1.2) h.1.1.1 h.1.1.2
    · cases h
  | .setx i k m, s, O, h => by
    have O' := O.toOkx
    simp only [chkS] at h
    split at h
    · simp only [Bool.and_eq_true, Bool.not_eq_true'] at h
      obtain ⟨n1, n2, n3⟩ := O'.nm h.1.1.1.1
      exact s_setx O'.hu O'.lt n1 n2 n3 (chkE_ok k _ O' h.1.2).1 (chkE_ok m _ O' h.2).1 h.1.1.1.2 h.1.1.2
    · cases h
  | .aug i o m, s, O, h => by
    have O' := O.toOkx
    simp only [chkS] at h
    split at h
    · simp only [Bool.and_eq_true] at h
      obtain ⟨q1, q2⟩ := O'.loc h.1.2
      exact s_aug O'.lt h.1.1.1 O'.nd (O'.slot h.1.1.2) q1 (chkE_ok m _ O' h.2).1 q2
    · cases h
  | .app i m, s, O, h => by
    have O' := O.toOkx
    simp only [chkS] at h
    split at h
    · simp only [Bool.and_eq_true, beq_iff_eq] at h
      obtain ⟨⟨⟨⟨rfl, h2⟩, h3⟩, h4⟩, h5⟩ := h
      obtain ⟨n1, n2, n3⟩ := O'.nm h3
      exact s_app O'.lt n1 n2 n3 (chkE_ok m _ O' h5).1 (by rw [h2]; exact beq_self_eq_true _) (nostar1 h4)
    · cases h
  | .expr m, s, O, h => by
    have O' := O.toOkx
    simp only [chkS] at h
    split at h
    · simp only [Bool.and_eq_true, Bool.not_eq_true'] at h
      exact s_expr (chkE_ok m _ O' h.2).1 h.1
    · cases h
  | .ret m, s, O, h => by
    have O' := O.toOkx
    simp only [chkS] at h
    split at h
    · exact s_ret (chkE_ok m _ O' h).1
    · cases h
  | .retN, s, O, h => by
    simp only [chkS] at h
    split at h
    · exact s_retN
    · cases h
  | .iff c a b, s, O, h => by
    have O' := O.toOkx
    simp only [chkS] at h
    split at h
    · simp only [Bool.and_eq_true] at h
      exact s_iff ((chkE_ok c _ O' h.1.1.2).2.1 h.1.1.1) (chkSs_ok a _ O h.1.2) (chkSs_ok b _ O h.2)
    · cases h
  | .loop k src tg b, s, O, h => by
    have O' := O.toOkx
    simp only [chkS] at h
    split at h
    · simp only [Bool.and_eq_true, Bool.not_eq_true'] at h
      exact s_loop O'.lt O.pass O'.calm (chkI_ok k src _ _ O' h.1.1.2) (chkT_ok O' h.1.2) (chkSs_ok b _ O h.2) h.1.1.1
    · cases h
  | .whl c b, s, O, h => by
    have O' := O.toOkx
    simp only [chkS] at h
    split at h
    · simp only [Bool.and_eq_true] at h
      exact s_whl O.pass ((chkE_ok c _ O' h.1.2).2.1 h.1.1) (chkSs_ok b _ O h.2)
    · cases h
  | .brk, s, O, h => by
    simp only [chkS] at h
    split at h
    · exact s_brk
    · cases h
  | .cont, s, O, h => by
    simp only [chkS] at h
    split at h
    · exact s_cont
    · cases h
  | .rse c, s, O, h => by
    have O' := O.toOkx
    simp only [chkS] at h
    split at h
    · rw [Bool.and_eq_true] at h
      obtain ⟨g1, g2⟩ := O'.gl h.1
      have K := O.cls _ _ h.2
      obtain ⟨bmB, B, newId, initId, F, q⟩ := K.x
      exact s_rse O'.calm O'.tk F q K.m K.k (raises_own K.b K.t) g1 g2
    · cases h
  | .seq _ _, s, O, h => by simp [chkS] at h
  | .par _ _ _ _, s, O, h => by simp [chkS] at h
  | .ext _ _, s, O, h => by simp [chkS] at h
  | .sdf _ _ _, s, O, h => by simp [chkS] at h
theorem chkSs_ok : ∀ (m : MS) (ss : List Stmt), Oks X ad lt E C g → chkSs g m ss = true → PSs X ss (rdS (rc X ad) lt E (evS C m))
  | .skip, ss, O, h => by
    simp only [chkSs] at h
    have : ss = [] := by simpa using h
    subst this
    exact ss_nil
  | .seq a b, ss, O, h => by
    simp only [chkSs] at h
    split at h
    · rw [Bool.and_eq_true] at h
      exact ss_cons (chkS_ok a _ O h.1) (chkSs_ok b _ O h.2)
    · cases h
  | .asg _ _, s, O, h => by simp [chkSs] at h
  | .unp _ _, s, O, h => by simp [chkSs] at h
  | .par _ _ _ _, s, O, h => by simp [chkSs] at h
  | .aug _ _ _, s, O, h => by simp [chkSs] at h
  | .setx _ _ _, s, O, h => by simp [chkSs] at h
  | .app _ _, s, O, h => by simp [chkSs] at h
  | .ext _ _, s, O, h => by simp [chkSs] at h
  | .sdf _ _ _, s, O, h => by simp [chkSs] at h
  | .expr _, s, O, h => by simp [chkSs] at h
  | .ret _, s, O, h => by simp [chkSs] at h
  | .retN, s, O, h => by simp [chkSs] at h
  | .iff _ _ _, s, O, h => by simp [chkSs] at h
  | .loop _ _ _ _, s, O, h => by simp [chkSs] at h
  | .whl _ _, s, O, h => by simp [chkSs] at h
  | .brk, s, O, h => by simp [chkSs] at h
  | .cont, s, O, h => by simp [chkSs] at h
  | .rse _, s, O, h => by simp [chkSs] at h
end
end
/-! ### a text -/
/-- a def of the text: its name, its statement, its slots' names, its body -/
structure Df where
  name : Str
  st : Stmt
  N : List Str
  body : MS
def Df.np (d : Df) : Nat := (defArgs d.st).args.length
/-- a text: its defs, its constants, its classes, the built-ins that it leaves alone -/
structure Tx where
  defs : List Df
  gls : List (Str × Nat)
  cls : List (Str × Nat)
  blts : List Str
def Tx.fns (T : Tx) : List (Str × Nat) := (T.defs.map (·.name)).zipIdx
def Tx.gs (T : Tx) (d : Df) : Gs := ⟨d.N, defScope d.st, none, T.fns, T.gls, T.cls, T.blts⟩
def Tx.fs (T : Tx) (f : Nat) : Fn := match T.defs[f]? with
  | some d => ⟨d.np, d.N.length, d.body⟩
  | none => ⟨0, 0, .skip⟩
def Df.ps (d : Df) : List Str := d.N.take d.np
def scB (N P : List Str) (sc : Scope) : Bool := decide (sc.kind = .function) && !sc.isCoroutine && !sc.isGenerator && decide N.Nodup && (N.take P.length == P) && (P.all fun x => match sc.names.lookup x with | some .local => true | some .cell => true | _ => false) &&
  sc.names.all fun y => decide (y.2 ≠ .free)
theorem sc_of {N P : List Str} {sc : Scope} (h : scB N P sc = true) : FnScope N P sc := by
  unfold scB at h
  simp only [Bool.and_eq_true, decide_eq_true_eq, Bool.not_eq_true', beq_iff_eq, List.all_eq_true] at h
  obtain ⟨⟨⟨⟨⟨⟨h1, h2⟩, h3⟩, h4⟩, h5⟩, h6⟩, h7⟩ := h
  refine ⟨h1, h2, h3, h4, h5, fun x hx => ?_, fun y hy => h7 y hy⟩
  have := h6 x hx
  split at this
  · exact .inl ‹_›
  · exact .inr ‹_›
  · cases this
def Tx.dOk (T : Tx) (d : Df) : Bool := scB d.N d.ps (defScope d.st) && decide (d.np ≤ d.N.length) && chkSs (T.gs d) d.body (defBody d.st)
def Tx.ok (T : Tx) : Bool := T.defs.all T.dOk
structure Tok (P : Program) (w : World) (K : PySem.W.Frag) (mg : Str → Option Value) (ad : Nat → Addr) (glob : Nat → D) (T : Tx) : Prop where
  fns : ∀ d ∈ T.defs, ∃ fa fd, Fun K d.name d.name d.st fa fd ∧ mg d.name = some (.ref fa) ∧ ∀ us : List Value, us.length = d.ps.length → bindArgs fd ⟨us, []⟩ = pure (d.ps.zip us)
  blt : ∀ x, T.blts.contains x = true → mg x = none
  gls : ∀ x k, T.gls.contains (x, k) = true → ∃ u v, mg x = some u ∧ RelV v u ∧ Rep ⟨P, w, K, ad⟩ (fun _ => none) (glob k) v
  cls : ∀ x c, T.cls.contains (x, c) = true → ClsOk P w K mg x (ad c)
theorem endF_nx {lt : Bool} {δ : Ds} : endF lt (.nx δ) = endF lt (.rt (.im .non) δ) := by
  cases lt <;> rfl
section
variable {P : Program} {w : World} {K : PySem.W.Frag} {mg : Str → Option Value} {base : Heap} {ad : Nat → Addr} {glob : Nat → D} {T : Tx} {fuel : Nat}
theorem text_ok (hT : T.ok = true) (O : Tok P w K mg ad glob T) : ∀ (k : Nat) (f : Nat) (d : Df), T.defs[f]? = some d → ∀ fa fd, Fun K d.name d.name d.st fa fd → mg d.name = some (.ref fa) →
    FnOk P w K mg base (L2.CX P w) (k + 1) fa fd d.ps (spF ⟨P, w, K, ad⟩ (callD fuel glob T.fs k f)) := by
  intro k
  induction k with
  | zero =>
    intro f d hd fa fd F hm
    have no : ∀ {vs H Q E}, spF ⟨P, w, K, ad⟩ (callD fuel glob T.fs 0 f) vs H Q E → False := fun ⟨Φ, args, _, _, _, _, _, p⟩ => by
      simp only [callD] at p
      exact p
    exact ⟨fun vs H Q E h => (no h).elim, fun A outer s H args us vs Q E _ _ _ _ h => (no h).elim⟩
  | succ k ih =>
    intro f d hd fa fd F hm
    have hdm : d ∈ T.defs := List.mem_of_getElem? hd
    have hok := List.all_eq_true.mp hT d hdm
    unfold Tx.dOk at hok
    simp only [Bool.and_eq_true, decide_eq_true_eq] at hok
    obtain ⟨⟨h1, h2⟩, h3⟩ := hok
    have S := sc_of h1
    have hfs : T.fs f = ⟨d.np, d.N.length, d.body⟩ := by
      unfold Tx.fs
      rw [hd]
    have hps : d.ps.length = d.np := by
      unfold Df.ps
      rw [List.length_take]
      omega
    refine F.okX S (fun vs H Q E h => ?_) (fun cdv A outer s H vs Q E hr h => ?_)
    · obtain ⟨Φ, args, e1, e2, e3, e4, R, p⟩ := h
      simp only [callD, hfs] at p
      split at p
      · rename_i hc
        rw [Bool.and_eq_true, beq_iff_eq] at hc
        have := R.len
        rw [List.length_map] at this
        rw [hps]
        omega
      · exact p.elim
    · obtain ⟨Φ, args, e1, e2, e3, e4, R, p⟩ := h
      simp only [callD, hfs] at p
      split at p
      · rename_i hc
        rw [Bool.and_eq_true, beq_iff_eq] at hc
        have hlen : args.length = vs.length := by
          have := R.len
          rwa [List.length_map] at this
        -- the context
        let C : Cn := ⟨callD fuel glob T.fs k, lentOf args, fuel, glob⟩
        let E' : Wx := fun _ c H => E (.ref (ad c)) none H
        have Ox : Oks (cxOf (L2.CX P w) P w K mg base d.N d.name (defScope d.st) fa cdv A outer s H E) ad (lentOf args) E' C (T.gs d) := {
          N := rfl
          nd := S.nd
          sc := rfl
          calm := rfl
          hu := by
            have := hr.un
            show (A.deeper _).units + 100 < cLine
            omega
          lt := rfl
          fn := fun _ _ => rfl
          blt := O.blt
          fns := fun x f' hf => by
            have hf : (x, f') ∈ T.fns := by
              rw [List.contains_iff_mem] at hf
              exact hf
            unfold Tx.fns at hf
            have hf2 := List.mem_zipIdx_iff_getElem?.mp hf
            rw [List.getElem?_map] at hf2
            cases hd' : T.defs[f']? with
            | none => rw [hd'] at hf2; cases hf2
            | some d' =>
              rw [hd'] at hf2
              cases hf2
              obtain ⟨fa', fd', F', hm', hb'⟩ := O.fns d' (List.mem_of_getElem? hd')
              exact ⟨k + 1, fa', fd', d'.ps, ih f' d' hd' fa' fd' F' hm', hr, hm', F'.kp, .all hb'⟩
          gls := O.gls
          tk := (takes_of (E := E) rfl rfl rfl rfl).imp fun c dd σ H ⟨n, q1, q2, q3⟩ => by
            subst q1 q2
            exact q3
          pass := passes_of rfl
          cls := O.cls }
        refine ⟨_, chkSs_ok d.body (defBody d.st) Ox h3, ?_⟩
        -- the slots
        have hst : L2.start d.N vs = vs.map some ++ List.replicate (d.N.length - d.np) none := by
          unfold L2.start
          rw [← hlen, hc.1]
        rw [hst]
        obtain ⟨R1, eg⟩ := R.more (d.N.length - d.np)
        refine ⟨Φ, args ++ List.replicate (d.N.length - d.np) .no, e1, e4.symm, R1, ?_⟩
        have hl : Φ.L.isSome = lentOf args := e4.symm
        cases hev : evS C d.body (args ++ List.replicate (d.N.length - d.np) .no) with
        | bad => rw [hev] at p; exact p
        | bk δ => rw [hev] at p; exact (show False from p).elim
        | ct δ => rw [hev] at p; exact (show False from p).elim
        | ex c δ =>
          rw [hev] at p
          intro σ' H' R'
          have := p H' R'.fix R'.bd
          rw [e1] at this
          exact this
        | rt r δ =>
          rw [hev] at p
          intro σ' v H' ok
          cases hen : endF (lentOf args) (.rt r δ) with
          | ret r' l =>
            have p : PostF Φ H (endF (lentOf args) (.rt r δ)) Q E := p
            rw [hen] at p
            exact p v H' (ret_of e2 hl ok hen)
          | ex c =>
            have p : PostF Φ H (endF (lentOf args) (.rt r δ)) Q E := p
            exfalso
            simp only [endF] at hen
            cases r with
            | im dd => simp only at hen; (repeat' split at hen) <;> cases hen
            | fr dd => simp only at hen; (repeat' split at hen) <;> cases hen
            | pk i => simp only at hen; (repeat' split at hen) <;> cases hen
          | bad =>
            have p : PostF Φ H (endF (lentOf args) (.rt r δ)) Q E := p
            rw [hen] at p
            exact p.elim
        | nx δ =>
          rw [hev] at p
          intro σ' H' R' g'
          have p : PostF Φ H (endF (lentOf args) (.nx δ)) Q E := p
          rw [endF_nx] at p
          cases hen : endF (lentOf args) (.rt (.im .non) δ) with
          | ret r' l =>
            rw [hen] at p
            have ok : ResOk Φ σ' _ (.im .non) δ .non H' := ⟨R', g', Rep.non_iff.mpr rfl⟩
            exact p .non H' (ret_of e2 hl ok hen)
          | ex c =>
            exfalso
            simp only [endF] at hen
            (repeat' split at hen) <;> cases hen
          | bad =>
            rw [hen] at p
            exact p.elim
      · exact p.elim
end
end EL

set_option Elab.async false
set_option linter.all false
set_option maxRecDepth 100000
set_option maxHeartbeats 2000000
/-! the end of a law -/
namespace EL
open PySem PySem.Spec PyProof.Rows L2 RZ
/-- what a law keeps -/
def spLaw (K : PySem.W.Frag) : Sp := fun vs H Q _ => ∃ (a : Addr) (ns : List Int), vs = [.ref a] ∧ SqL K H a (ns.map V.int) ∧ ns.length ≤ 63 ∧ (∀ z ∈ ns, Builtin.Int.intBits z ≤ 1048576) ∧ ∀ H', Q (.bl true) H'
theorem reps_ints {R : RC} {G : Hp} : ∀ ns : List Int, Reps R G (ns.map D.int) (ns.map V.int)
  | [] => Reps.nil
  | n :: ns => Reps.cons (Rep.int_iff.mpr rfl) (reps_ints ns)
theorem law_of {P : Program} {w : World} {K : PySem.W.Frag} {ad : Nat → Addr} {g : List Sl → FOut} (hp : ∀ ns : List Int, ns.length ≤ 63 → (∀ z ∈ ns, Builtin.Int.intBits z ≤ 1048576) → ∃ l, g [.im (.lst (ns.map D.int))] = .ret (.im (.bl true)) l)
    {vs : List V} {H : Hp} {Q : VK} {E : XK} (h : spLaw K vs H Q E) : spF ⟨P, w, K, ad⟩ g vs H Q E := by
  obtain ⟨a, ns, rfl, hs, hl, hb, q⟩ := h
  obtain ⟨l, hg⟩ := hp ns hl hb
  have e : hid H (fun _ => False) = H := by
    funext b
    rw [hid_out (fun z => z)]
  refine ⟨⟨⟨P, w, K, ad⟩, less H none, fun _ => False, none⟩, [.im (.lst (ns.map D.int))], rfl, rfl, rfl, rfl, ?_, ?_⟩
  · refine Rl.args (Ψ := ⟨⟨P, w, K, ad⟩, less H none, fun _ => False, none⟩) (ds := [.lst (ns.map D.int)]) (vs := [.ref a]) rfl (fun b o (z : less H none b = some o) => (less_some z).2) (fun b z => z.elim) (fun b z => z.elim) ?_
    rw [e]
    exact .cons (Rep.lst_iff.mpr ⟨a, _, rfl, hs, reps_ints ns⟩) .nil
  · rw [hg]
    intro v H' ok
    obtain ⟨_, h1, _⟩ := ok
    rw [Rep.bl_iff.mp h1]
    exact q H'
theorem law_fn {P : Program} {w : World} {K : PySem.W.Frag} {mg : Str → Option Value} {ad : Nat → Addr} {glob : Nat → D} {T : Tx} {fuel : Nat} (hT : T.ok = true) (O : Tok P w K mg ad glob T) {f : Nat} {d : Df} {x : Str} (hd : T.defs[f]? = some d) (hps : d.ps = [x]) {fa : Addr} (hm : mg d.name = some (.ref fa)) (k : Nat)
    (hp : ∀ ns : List Int, ns.length ≤ 63 → (∀ z ∈ ns, Builtin.Int.intBits z ≤ 1048576) → ∃ l, callD fuel glob T.fs k f [.im (.lst (ns.map D.int))] = .ret (.im (.bl true)) l) :
    ∃ fd : FuncData, (∀ (s : Shared) (u : Value), BindsTo s fd ⟨[u], []⟩ [(x, u)]) ∧ ∀ base : Heap, K.In base → base.Ns mainGlobals mg → FnOk P w K mg base (L2.CX P w) (k + 1) fa fd [x] (spLaw K) := by
  obtain ⟨fa', fd, F, hm', hb⟩ := O.fns d (List.mem_of_getElem? hd)
  rw [hm] at hm'
  cases hm'
  rw [hps] at hb
  refine ⟨fd, fun s u => .of_eq (hb [u] rfl), fun base _ _ => ?_⟩
  have := text_ok (base := base) (fuel := fuel) hT O k f d hd fa fd F hm
  rw [hps] at this
  exact this.imp fun vs H Q E h => law_of hp h
theorem cx_none {P : Program} {w : World} {H : Hp} {s : Shared} {e : Value} {s' : Shared} (h : L2.CX P w [] H s (fun _ _ _ => False) e s') : False := by
  obtain ⟨_, _, _, _, _, _, _, _, _, _, _, _, z⟩ := h
  exact z
/-- a tuple of the module -/
theorem rep_ktup {R : RC} {a : Addr} {dd : Option Addr} {its : List Value} {n : Nat} {sl : Array (Option Value)} {ds : List D} {vs : List V} (h : R.K.lookup a = some ⟨.type "tuple", dd, .seq its.toArray n, sl⟩) (hz : its.length ≤ 1000) (hv : Vals vs its) (hr : Reps R (fun _ => none) ds vs) :
    Rep R (fun _ => none) (.tup ds) (.ref a) := by
  refine Rep.tup_iff.mpr ⟨a, vs, rfl, .inr ⟨_, its.toArray, n, h, rfl, rfl, ?_, by simpa using hv⟩, hr⟩
  rw [List.size_toArray, sizeLine_eq]
  omega
theorem walk_law {l : PySem.W.OpenLaw} {k : Nat} {q : Program} {loose : List Str} {XP : (Str → Option Value) → Heap → Prop} {YP : World → Heap → Prop} {d : DefRec} {K : Params → PySem.W.Frag} {x : Str} (hn : l.most = some 63) (hdf : d.params.defaults = []) (hr : Room k callerA)
    (hY : ∀ (w : World) (h : Heap), YP w h → (K w.params).In h)
    (F : ∀ (w : World) (mg : Str → Option Value) (fa : Addr) (h : Heap), (K w.params).In h → h.Ns mainGlobals mg → mg d.name = some (.ref fa) →
      ∃ fd : FuncData, (∀ (s : Shared) (u : Value), BindsTo s fd ⟨[u], []⟩ [(x, u)]) ∧ ∀ base : Heap, (K w.params).In base → base.Ns mainGlobals mg → FnOk l.prog w (K w.params) mg base (L2.CX l.prog w) k fa fd [x] (spLaw (K w.params))) :
    PySem.W.WalkO q loose XP YP l.row.toRowW d [] (fun f vs => PySem.call f vs) :=
  L2.walk_ofB (CX := fun w => L2.CX l.prog w) (sp := fun w => spLaw (K w.params)) hn (by rw [sizeLine_eq]; decide) hdf hr hY F (fun w H a ns hlen hb hO hs => ⟨a, ns, rfl, hs, hlen, hb, fun _ => rfl⟩) fun w H s e s' h => cx_none h
end EL

set_option Elab.async false
set_option linter.all false
set_option maxRecDepth 100000
set_option maxHeartbeats 4000000
namespace K68
open PySem PySem.Spec PyProof.Rows L2 EL
def top (i : Nat) : Stmt := PySem.Challenge.pw_edgewide_k68_parts_told.main.body.getD i (.Pass ⟨0, 0, 0, 0⟩)
/-- look_finite: 0 shape -/
def b_look_finite : MS := .seq (.iff (.ix (.var 0) (.cst (.int 1))) (.seq (.rse 1) .skip) .skip) .skip
def d_look_finite : Df := ⟨("look_finite" : Str), top 6, [("shape" : Str)], b_look_finite⟩
/-- flooded: 0 some, 1 start, 2 steps, 3 found, 4 at, 5 step, 6 near -/
def b_flooded : MS := .seq (.asg 3 (.lst (.cons (.var 1) .nil))) (.seq (.expr (.popi 0 (.var 1))) (.seq (.asg 4 (.cst (.int 0))) (.seq (.whl (.cmp .lt (.var 4) (.blt .len (.rd 3 .nil))) (.seq (.loop .each (.cons (.var 2) .nil) [5] (.seq (.asg 6 (.tup (.cons (.bin .add (.ix (.ix (.var 3) (.var 4)) (.cst (.int 0))) (.ix (.var 5) (.cst (.int 0)))) (.cons (.bin .add (.ix (.ix (.var 3) (.var 4)) (.cst (.int 1))) (.ix (.var 5) (.cst (.int 1)))) .nil)))) (.seq (.iff (.cmp .inn (.var 6) (.var 0)) (.seq (.expr (.popi 0 (.var 6))) (.seq (.app 3 (.var 6)) .skip)) .skip) .skip))) (.seq (.asg 4 (.bin .add (.var 4) (.cst (.int 1)))) .skip))) (.seq (.ret (.var 3)) .skip))))
def d_flooded : Df := ⟨("flooded" : Str), top 7, [("some" : Str), ("start" : Str), ("steps" : Str), ("found" : Str), ("at" : Str), ("step" : Str), ("near" : Str)], b_flooded⟩
/-- noted: 0 cells, 1 some, 2 cell -/
def b_noted : MS := .seq (.asg 1 .dic0) (.seq (.loop .each (.cons (.var 0) .nil) [2] (.seq (.setx 1 (.var 2) (.cst (.bl true))) .skip)) (.seq (.ret (.var 1)) .skip))
def d_noted : Df := ⟨("noted" : Str), top 8, [("cells" : Str), ("some" : Str), ("cell" : Str)], b_noted⟩
/-- regions: 0 cells, 1 steps, 2 some, 3 found, 4 cell -/
def b_regions : MS := .seq (.asg 2 (.call 2 (.cons (.var 0) .nil))) (.seq (.asg 3 (.lst .nil)) (.seq (.loop .each (.cons (.var 0) .nil) [4] (.seq (.iff (.cmp .inn (.var 4) (.var 2)) (.seq (.app 3 (.blt .tuple (.cons (.blt .sorted (.cons (.callW 1 2 (.cons (.var 4) (.cons (.var 1) .nil))) .nil)) .nil))) .skip) .skip) .skip)) (.seq (.ret (.var 3)) .skip)))
def d_regions : Df := ⟨("regions" : Str), top 9, [("cells" : Str), ("steps" : Str), ("some" : Str), ("found" : Str), ("cell" : Str)], b_regions⟩
/-- parts: 0 shape -/
def b_parts : MS := .seq (.expr (.call 0 (.cons (.var 0) .nil))) (.seq (.ret (.call 3 (.cons (.ix (.var 0) (.cst (.int 0))) (.cons (.glb 0) .nil)))) .skip)
def d_parts : Df := ⟨("parts" : Str), top 10, [("shape" : Str)], b_parts⟩
/-- part_of: 0 shape, 1 cell, 2 some -/
def b_part_of : MS := .seq (.expr (.call 0 (.cons (.var 0) .nil))) (.seq (.asg 2 (.call 2 (.cons (.ix (.var 0) (.cst (.int 0))) .nil))) (.seq (.iff (.cmp .notin (.var 1) (.var 2)) (.seq (.rse 2) .skip) .skip) (.seq (.ret (.blt .tuple (.cons (.blt .sorted (.cons (.callW 1 2 (.cons (.var 1) (.cons (.glb 0) .nil))) .nil)) .nil))) .skip)))
def d_part_of : Df := ⟨("part_of" : Str), top 11, [("shape" : Str), ("cell" : Str), ("some" : Str)], b_part_of⟩
/-- _law_cell: 0 script, 1 k -/
def b__law_cell : MS := .seq (.iff (.cmp .lt (.var 1) (.blt .len (.rd 0 .nil))) (.seq (.ret (.ix (.var 0) (.var 1))) .skip) .skip) (.seq (.ret (.cst (.int 0))) .skip)
def d__law_cell : Df := ⟨("_law_cell" : Str), top 13, [("script" : Str), ("k" : Str)], b__law_cell⟩
/-- _law_deal: 0 cell, 1 salt, 2 one, 3 number, 4 j -/
def b__law_deal : MS := .seq (.iff (.cmp .ge (.var 0) (.bin .pow (.cst (.int 10)) (.cst (.int 18)))) (.seq (.ret (.bin .sub (.var 0) (.bin .pow (.cst (.int 10)) (.cst (.int 18))))) .skip) .skip) (.seq (.asg 2 (.bin .mod (.var 0) (.cst (.int 2147483629)))) (.seq (.asg 3 (.cst (.int 0))) (.seq (.loop .rng1 (.cons (.cst (.int 24)) .nil) [4] (.seq (.asg 2 (.bin .mod (.bin .mul (.bin .add (.bin .add (.bin .add (.var 2) (.bin .mul (.bin .mul (.cst (.int 15)) (.var 4)) (.var 4))) (.bin .mul (.cst (.int 31)) (.var 1))) (.cst (.int 11))) (.cst (.int 48271))) (.cst (.int 2147483647)))) (.seq (.asg 2 (.bin .mod (.bin .mul (.var 2) (.var 2)) (.cst (.int 2147483629)))) (.seq (.asg 3 (.bin .add (.bin .mul (.var 3) (.cst (.int 998244353))) (.bin .fdiv (.bin .mod (.bin .mul (.var 2) (.cst (.int 69621))) (.cst (.int 2147483587))) (.cst (.int 7))))) .skip)))) (.seq (.ret (.var 3)) .skip))))
def d__law_deal : Df := ⟨("_law_deal" : Str), top 14, [("cell" : Str), ("salt" : Str), ("one" : Str), ("number" : Str), ("j" : Str)], b__law_deal⟩
/-- _law_kept: 0 row, 1 column -/
def b__law_kept : MS := .seq (.ret (.tup (.cons (.blt .max2 (.cons (.neg (.bin .pow (.cst (.int 10)) (.cst (.int 12)))) (.cons (.blt .min2 (.cons (.bin .pow (.cst (.int 10)) (.cst (.int 12))) (.rd 0 .nil))) .nil))) (.cons (.blt .max2 (.cons (.neg (.bin .pow (.cst (.int 10)) (.cst (.int 12)))) (.cons (.blt .min2 (.cons (.bin .pow (.cst (.int 10)) (.cst (.int 12))) (.rd 1 .nil))) .nil))) .nil)))) .skip
def d__law_kept : Df := ⟨("_law_kept" : Str), top 15, [("row" : Str), ("column" : Str)], b__law_kept⟩
/-- _law_base: 0 number, 1 way, 2 row, 3 column, 4 by -/
def b__law_base : MS := .seq (.unp [0, 1] (.blt .divmod (.rd 0 (.cons (.cst (.int 5)) .nil)))) (.seq (.iff (.cmp .gt (.var 1) (.cst (.int 1))) (.seq (.ret (.tup (.cons (.tup (.cons (.cst (.int 0)) (.cons (.cst (.int 0)) .nil))) (.cons (.var 0) .nil)))) .skip) .skip) (.seq (.unp [0, 2] (.blt .divmod (.rd 0 (.cons (.ix (.lst (.cons (.bin .add (.bin .mul (.cst (.int 2)) (.bin .pow (.cst (.int 10)) (.cst (.int 12)))) (.cst (.int 1))) (.cons (.cst (.int 2)) .nil))) (.var 1)) .nil)))) (.seq (.unp [0, 3] (.blt .divmod (.rd 0 (.cons (.ix (.lst (.cons (.bin .add (.bin .mul (.cst (.int 2)) (.bin .pow (.cst (.int 10)) (.cst (.int 12)))) (.cst (.int 1))) (.cons (.cst (.int 2)) .nil))) (.var 1)) .nil)))) (.seq (.asg 4 (.ix (.lst (.cons (.cst (.int 1)) (.cons (.bin .mul (.cst (.int 2)) (.bin .pow (.cst (.int 10)) (.cst (.int 12)))) .nil))) (.var 1))) (.seq (.ret (.tup (.cons (.tup (.cons (.bin .sub (.bin .mul (.var 2) (.var 4)) (.bin .pow (.cst (.int 10)) (.cst (.int 12)))) (.cons (.bin .sub (.bin .mul (.var 3) (.var 4)) (.bin .pow (.cst (.int 10)) (.cst (.int 12)))) .nil))) (.cons (.var 0) .nil)))) .skip)))))
def d__law_base : Df := ⟨("_law_base" : Str), top 16, [("number" : Str), ("way" : Str), ("row" : Str), ("column" : Str), ("by" : Str)], b__law_base⟩
/-- _law_board: 0 number, 1 way, 2 base, 3 cells, 4 many, 5 k, 6 at, 7 top, 8 tall, 9 wide, 10 row, 11 column, 12 bits, 13 gone -/
def b__law_board : MS := .seq (.unp [0, 1] (.blt .divmod (.rd 0 (.cons (.cst (.int 5)) .nil)))) (.seq (.unp [2, 0] (.call 9 (.cons (.var 0) .nil))) (.seq (.asg 3 .dic0) (.seq (.unp [0, 4] (.blt .divmod (.rd 0 (.cons (.cst (.int 6)) .nil)))) (.seq (.iff (.cmp .eq (.var 1) (.cst (.int 0))) (.seq (.loop .rng1 (.cons (.bin .add (.var 4) (.cst (.int 1))) .nil) [5] (.seq (.unp [0, 6] (.blt .divmod (.rd 0 (.cons (.cst (.int 25)) .nil)))) (.seq (.setx 3 (.call 8 (.cons (.bin .add (.ix (.var 2) (.cst (.int 0))) (.bin .fdiv (.var 6) (.cst (.int 5)))) (.cons (.bin .add (.ix (.var 2) (.cst (.int 1))) (.bin .mod (.var 6) (.cst (.int 5)))) .nil))) (.cst (.bl true))) .skip))) .skip) .skip) (.seq (.iff (.cmp .eq (.var 1) (.cst (.int 1))) (.seq (.loop .rng1 (.cons (.bin .add (.cst (.int 1)) (.bin .mod (.var 4) (.cst (.int 3)))) .nil) [5] (.seq (.unp [0, 7] (.blt .divmod (.rd 0 (.cons (.cst (.int 4)) .nil)))) (.seq (.unp [0, 8] (.blt .divmod (.rd 0 (.cons (.cst (.int 5)) .nil)))) (.seq (.unp [0, 9] (.blt .divmod (.rd 0 (.cons (.cst (.int 5)) .nil)))) (.seq (.loop .rng1 (.cons (.bin .add (.cst (.int 1)) (.var 8)) .nil) [10] (.seq (.loop .rng1 (.cons (.bin .add (.cst (.int 1)) (.var 9)) .nil) [11] (.seq (.iff (.or (.cmp .inn (.var 10) (.tup (.cons (.cst (.int 0)) (.cons (.var 8) .nil)))) (.cmp .inn (.var 11) (.tup (.cons (.cst (.int 0)) (.cons (.var 9) .nil))))) (.seq (.setx 3 (.call 8 (.cons (.bin .add (.bin .add (.ix (.var 2) (.cst (.int 0))) (.var 7)) (.var 10)) (.cons (.bin .add (.bin .sub (.bin .add (.ix (.var 2) (.cst (.int 1))) (.bin .mul (.cst (.int 3)) (.var 5))) (.var 7)) (.var 11)) .nil))) (.cst (.bl true))) .skip) .skip) .skip)) .skip)) .skip))))) .skip) .skip) (.seq (.iff (.cmp .gt (.var 1) (.cst (.int 1))) (.seq (.loop .rng1 (.cons (.bin .add (.var 4) (.cst (.int 1))) .nil) [10] (.seq (.unp [0, 12] (.blt .divmod (.rd 0 (.cons (.cst (.int 64)) .nil)))) (.seq (.loop .rng1 (.cons (.cst (.int 6)) .nil) [11] (.seq (.iff (.cmp .eq (.bin .and (.bin .shr (.var 12) (.var 11)) (.cst (.int 1))) (.cst (.int 1))) (.seq (.setx 3 (.call 8 (.cons (.bin .add (.ix (.var 2) (.cst (.int 0))) (.var 10)) (.cons (.bin .add (.ix (.var 2) (.cst (.int 1))) (.var 11)) .nil))) (.cst (.bl true))) .skip) .skip) .skip)) .skip))) .skip) .skip) (.seq (.unp [0, 13] (.blt .divmod (.rd 0 (.cons (.cst (.int 3)) .nil)))) (.seq (.loop .rng1 (.cons (.blt .min2 (.rd 13 (.cons (.blt .len (.rd 3 .nil)) .nil))) .nil) [5] (.seq (.unp [0, 6] (.blt .divmod (.rd 0 (.cons (.blt .len (.rd 3 .nil)) .nil)))) (.seq (.expr (.popi 3 (.ix (.blt .sorted (.rd 3 .nil)) (.var 6)))) .skip))) (.seq (.ret (.tup (.cons (.blt .tuple (.cons (.blt .sorted (.rd 3 .nil)) .nil)) (.cons (.var 0) .nil)))) .skip)))))))))
def d__law_board : Df := ⟨("_law_board" : Str), top 17, [("number" : Str), ("way" : Str), ("base" : Str), ("cells" : Str), ("many" : Str), ("k" : Str), ("at" : Str), ("top" : Str), ("tall" : Str), ("wide" : Str), ("row" : Str), ("column" : Str), ("bits" : Str), ("gone" : Str)], b__law_board⟩
/-- _law_fallen: 0 cells, 1 sides, 2 left, 3 cell, 4 found, 5 part, 6 at, 7 row, 8 column, 9 near -/
def b__law_fallen : MS := .seq (.asg 2 .dic0) (.seq (.loop .each (.cons (.var 0) .nil) [3] (.seq (.setx 2 (.var 3) (.cst (.bl true))) .skip)) (.seq (.asg 4 (.lst .nil)) (.seq (.loop .each (.cons (.blt .sorted (.rd 0 .nil)) .nil) [3] (.seq (.iff (.cmp .inn (.var 3) (.var 2)) (.seq (.asg 5 (.lst (.cons (.var 3) .nil))) (.seq (.expr (.popi 2 (.var 3))) (.seq (.asg 6 (.cst (.int 0))) (.seq (.whl (.cmp .lt (.var 6) (.blt .len (.rd 5 .nil))) (.seq (.loop .each (.cons (.tup (.cons (.neg (.cst (.int 1))) (.cons (.cst (.int 0)) (.cons (.cst (.int 1)) .nil)))) .nil) [7] (.seq (.loop .each (.cons (.tup (.cons (.neg (.cst (.int 1))) (.cons (.cst (.int 0)) (.cons (.cst (.int 1)) .nil)))) .nil) [8] (.seq (.asg 9 (.tup (.cons (.bin .add (.ix (.ix (.var 5) (.var 6)) (.cst (.int 0))) (.var 7)) (.cons (.bin .add (.ix (.ix (.var 5) (.var 6)) (.cst (.int 1))) (.var 8)) .nil)))) (.seq (.iff (.and (.cmp .inn (.var 9) (.var 2)) (.not (.and (.var 1) (.cmp .ne (.bin .mul (.var 7) (.var 8)) (.cst (.int 0)))))) (.seq (.expr (.popi 2 (.var 9))) (.seq (.app 5 (.var 9)) .skip)) .skip) .skip))) .skip)) (.seq (.asg 6 (.bin .add (.var 6) (.cst (.int 1)))) .skip))) (.seq (.app 4 (.blt .tuple (.cons (.blt .sorted (.rd 5 .nil)) .nil))) .skip))))) .skip) .skip)) (.seq (.ret (.var 4)) .skip))))
def d__law_fallen : Df := ⟨("_law_fallen" : Str), top 18, [("cells" : Str), ("sides" : Str), ("left" : Str), ("cell" : Str), ("found" : Str), ("part" : Str), ("at" : Str), ("row" : Str), ("column" : Str), ("near" : Str)], b__law_fallen⟩
/-- _law_same: 0 found, 1 due, 2 one, 3 other -/
def b__law_same : MS := .seq (.iff (.cmp .isN (.var 1) (.cst .non)) (.seq (.ret (.cmp .isN (.var 0) (.cst .non))) .skip) .skip) (.seq (.iff (.blt .isi (.rd 1 (.cons (.cst (.ty "bool")) .nil))) (.seq (.ret (.and (.blt .isi (.rd 0 (.cons (.cst (.ty "bool")) .nil))) (.cmp .eq (.var 0) (.var 1)))) .skip) .skip) (.seq (.iff (.blt .isi (.rd 1 (.cons (.cst (.ty "int")) .nil))) (.seq (.ret (.and (.blt .isi (.rd 0 (.cons (.cst (.ty "int")) .nil))) (.and (.not (.blt .isi (.rd 0 (.cons (.cst (.ty "bool")) .nil)))) (.cmp .eq (.var 0) (.var 1))))) .skip) .skip) (.seq (.iff (.blt .isi (.rd 1 (.cons (.cst (.ty "str")) .nil))) (.seq (.ret (.and (.blt .isi (.rd 0 (.cons (.cst (.ty "str")) .nil))) (.cmp .eq (.var 0) (.var 1)))) .skip) .skip) (.seq (.iff (.or (.and (.blt .isi (.rd 1 (.cons (.cst (.ty "tuple")) .nil))) (.not (.blt .isi (.rd 0 (.cons (.cst (.ty "tuple")) .nil))))) (.and (.blt .isi (.rd 1 (.cons (.cst (.ty "list")) .nil))) (.not (.blt .isi (.rd 0 (.cons (.cst (.ty "list")) .nil)))))) (.seq (.ret (.cst (.bl false))) .skip) .skip) (.seq (.ret (.and (.cmp .eq (.blt .len (.rd 0 .nil)) (.blt .len (.rd 1 .nil))) (.blt .all (.cons (.comp [2, 3] .zip (.cons (.var 0) (.cons (.var 1) .nil)) [2, 3] false .nil (.call 12 (.cons (.var 2) (.cons (.var 3) .nil)))) .nil)))) .skip)))))
def d__law_same : Df := ⟨("_law_same" : Str), top 19, [("found" : Str), ("due" : Str), ("one" : Str), ("other" : Str)], b__law_same⟩
/-- law: 0 script, 1 cell, 2 cells, 3 number, 4 spot, 5 far, 6 shape, 7 due, 8 told, 9 part -/
def b_law : MS := .seq (.loop .each (.cons (.bin .add (.lst (.cons (.call 6 (.cons (.var 0) (.cons (.cst (.int 0)) .nil))) .nil)) (.cut (.var 0) (.cst (.int 1)) (.cst (.int 7)))) .nil) [1] (.seq (.unp [2, 3] (.call 10 (.cons (.call 7 (.cons (.var 1) (.cons (.cst (.int 1)) .nil))) .nil))) (.seq (.iff (.and (.cmp .eq (.bin .mod (.var 3) (.cst (.int 4))) (.cst (.int 1))) (.cmp .eq (.comp [4] .each (.cons (.var 2) .nil) [4] true (.cmp .lt (.ix (.var 4) (.cst (.int 0))) (.bin .sub (.cst (.int 9)) (.bin .pow (.cst (.int 10)) (.cst (.int 12))))) (.var 4)) (.lst .nil))) (.seq (.asg 5 (.lst (.cons (.tup (.cons (.bin .sub (.cst (.int 3)) (.bin .pow (.cst (.int 10)) (.cst (.int 12)))) (.cons (.bin .sub (.bin .pow (.cst (.int 10)) (.cst (.int 12))) (.cst (.int 5))) .nil))) (.cons (.tup (.cons (.bin .sub (.cst (.int 5)) (.bin .pow (.cst (.int 10)) (.cst (.int 12)))) (.cons (.bin .sub (.bin .add (.bin .mod (.var 3) (.bin .pow (.cst (.int 10)) (.cst (.int 6)))) (.cst (.int 50))) (.bin .pow (.cst (.int 10)) (.cst (.int 12)))) .nil))) .nil)))) (.seq (.asg 2 (.blt .tuple (.cons (.blt .sorted (.cons (.bin .add (.blt .list (.rd 2 .nil)) (.var 5)) .nil)) .nil))) .skip)) .skip) (.seq (.asg 6 (.tup (.cons (.var 2) (.cons (.cst (.bl false)) .nil)))) (.seq (.asg 7 (.call 11 (.cons (.var 2) (.cons (.cst (.bl false)) .nil)))) (.seq (.asg 8 (.call 4 (.cons (.var 6) .nil))) (.seq (.iff (.not (.call 12 (.rd 8 (.cons (.var 7) .nil)))) (.seq (.ret (.cst (.bl false))) .skip) .skip) (.seq (.app 8 (.tup .nil)) (.seq (.loop .each (.cons (.var 7) .nil) [9] (.seq (.loop .each (.cons (.var 9) .nil) [4] (.seq (.iff (.not (.call 12 (.cons (.call 5 (.cons (.var 6) (.cons (.var 4) .nil))) (.cons (.var 9) .nil)))) (.seq (.ret (.cst (.bl false))) .skip) .skip) .skip)) .skip)) (.seq (.iff (.not (.call 12 (.cons (.call 4 (.cons (.var 6) .nil)) (.cons (.var 7) .nil)))) (.seq (.ret (.cst (.bl false))) .skip) .skip) .skip)))))))))) (.seq (.ret (.cst (.bl true))) .skip)
def d_law : Df := ⟨("law" : Str), top 20, [("script" : Str), ("cell" : Str), ("cells" : Str), ("number" : Str), ("spot" : Str), ("far" : Str), ("shape" : Str), ("due" : Str), ("told" : Str), ("part" : Str)], b_law⟩
def text : Tx := ⟨[d_look_finite, d_flooded, d_noted, d_regions, d_parts, d_part_of, d__law_cell, d__law_deal, d__law_kept, d__law_base, d__law_board, d__law_fallen, d__law_same, d_law], [(("AROUND" : Str), 0)], [(("Endless" : Str), 1), (("NoCell" : Str), 2)], [("all" : Str), ("bool" : Str), ("divmod" : Str), ("int" : Str), ("isinstance" : Str), ("len" : Str), ("list" : Str), ("max" : Str), ("min" : Str), ("range" : Str), ("sorted" : Str), ("str" : Str), ("tuple" : Str), ("zip" : Str)]⟩
def glob : Nat → D
  | 0 => .tup [.tup [.int (-1), .int (-1)], .tup [.int (-1), .int (0)], .tup [.int (-1), .int (1)], .tup [.int (0), .int (-1)], .tup [.int (0), .int (1)], .tup [.int (1), .int (-1)], .tup [.int (1), .int (0)], .tup [.int (1), .int (1)]]
  | _ => .non
theorem ok : text.ok = true := by decide +kernel
end K68
namespace K68
open PySem PySem.Spec PyProof.Rows L2 EL
theorem facts {P : Program} {w : World} {K : PySem.W.Frag} {h : Heap} {mg : Str → Option Value} (X : K.In h) (G : h.Ns mainGlobals mg) {f0 f1 f2 f3 f4 f5 f6 f7 f8 f9 f10 f11 f12 f13 C1 C2 t0_0 t0_1 t0_2 t0_3 t0_4 t0_5 t0_6 t0_7 t0 : Addr}
    {od0 an0 od1 an1 od2 an2 od3 an3 od4 an4 od5 an5 od6 an6 od7 an7 od8 an8 od9 an9 od10 an10 od11 an11 od12 an12 od13 an13 dd0_0 dd0_1 dd0_2 dd0_3 dd0_4 dd0_5 dd0_6 dd0_7 dd0 : Option Addr} {sl0 sl1 sl2 sl3 sl4 sl5 sl6 sl7 sl8 sl9 sl10 sl11 sl12 sl13 ts0_0 ts0_1 ts0_2 ts0_3 ts0_4 ts0_5 ts0_6 ts0_7 ts0 : Array (Option Value)} {oc0 kV0 dc0 pm0 cd0 ct0 oc1 kV1 dc1 pm1 cd1 ct1 oc2 kV2 dc2 pm2 cd2 ct2 oc3 kV3 dc3 pm3 cd3 ct3 oc4 kV4 dc4 pm4 cd4 ct4 oc5 kV5 dc5 pm5 cd5 ct5 oc6 kV6 dc6 pm6 cd6 ct6 oc7 kV7 dc7 pm7 cd7 ct7 oc8 kV8 dc8 pm8 cd8 ct8 oc9 kV9 dc9 pm9 cd9 ct9 oc10 kV10 dc10 pm10 cd10 ct10 oc11 kV11 dc11 pm11 cd11 ct11 oc12 kV12 dc12 pm12 cd12 ct12 oc13 kV13 dc13 pm13 cd13 ct13 : Value} {k0_0_0 k0_0_1 k0_1_0 k0_1_1 k0_2_0 k0_2_1 k0_3_0 k0_3_1 k0_4_0 k0_4_1 k0_5_0 k0_5_1 k0_6_0 k0_6_1 k0_7_0 k0_7_1 : Tok}
    {tn0_0 tn0_1 tn0_2 tn0_3 tn0_4 tn0_5 tn0_6 tn0_7 tn0 : Nat}
    (a0 : PySem.W.nsIn K mainGlobals ("look_finite" : Str) = some (some (.ref f0))) (l0 : K.lookup f0 = some ⟨oc0, od0, .func (PySem.W.fnOf ("look_finite" : Str) ("look_finite" : Str) (defArgs (top 6)) (defBody (top 6)) (defScope (top 6)) .none kV0 dc0 pm0 an0 cd0 ct0), sl0⟩) (c0 : PySem.W.codeIn K cd0 ("look_finite" : Str) = true) (q0 : PySem.W.keepIn K (.ref f0) = true)
    (a1 : PySem.W.nsIn K mainGlobals ("flooded" : Str) = some (some (.ref f1))) (l1 : K.lookup f1 = some ⟨oc1, od1, .func (PySem.W.fnOf ("flooded" : Str) ("flooded" : Str) (defArgs (top 7)) (defBody (top 7)) (defScope (top 7)) .none kV1 dc1 pm1 an1 cd1 ct1), sl1⟩) (c1 : PySem.W.codeIn K cd1 ("flooded" : Str) = true) (q1 : PySem.W.keepIn K (.ref f1) = true)
    (a2 : PySem.W.nsIn K mainGlobals ("noted" : Str) = some (some (.ref f2))) (l2 : K.lookup f2 = some ⟨oc2, od2, .func (PySem.W.fnOf ("noted" : Str) ("noted" : Str) (defArgs (top 8)) (defBody (top 8)) (defScope (top 8)) .none kV2 dc2 pm2 an2 cd2 ct2), sl2⟩) (c2 : PySem.W.codeIn K cd2 ("noted" : Str) = true) (q2 : PySem.W.keepIn K (.ref f2) = true)
    (a3 : PySem.W.nsIn K mainGlobals ("regions" : Str) = some (some (.ref f3))) (l3 : K.lookup f3 = some ⟨oc3, od3, .func (PySem.W.fnOf ("regions" : Str) ("regions" : Str) (defArgs (top 9)) (defBody (top 9)) (defScope (top 9)) .none kV3 dc3 pm3 an3 cd3 ct3), sl3⟩) (c3 : PySem.W.codeIn K cd3 ("regions" : Str) = true) (q3 : PySem.W.keepIn K (.ref f3) = true)
    (a4 : PySem.W.nsIn K mainGlobals ("parts" : Str) = some (some (.ref f4))) (l4 : K.lookup f4 = some ⟨oc4, od4, .func (PySem.W.fnOf ("parts" : Str) ("parts" : Str) (defArgs (top 10)) (defBody (top 10)) (defScope (top 10)) .none kV4 dc4 pm4 an4 cd4 ct4), sl4⟩) (c4 : PySem.W.codeIn K cd4 ("parts" : Str) = true) (q4 : PySem.W.keepIn K (.ref f4) = true)
    (a5 : PySem.W.nsIn K mainGlobals ("part_of" : Str) = some (some (.ref f5))) (l5 : K.lookup f5 = some ⟨oc5, od5, .func (PySem.W.fnOf ("part_of" : Str) ("part_of" : Str) (defArgs (top 11)) (defBody (top 11)) (defScope (top 11)) .none kV5 dc5 pm5 an5 cd5 ct5), sl5⟩) (c5 : PySem.W.codeIn K cd5 ("part_of" : Str) = true) (q5 : PySem.W.keepIn K (.ref f5) = true)
    (a6 : PySem.W.nsIn K mainGlobals ("_law_cell" : Str) = some (some (.ref f6))) (l6 : K.lookup f6 = some ⟨oc6, od6, .func (PySem.W.fnOf ("_law_cell" : Str) ("_law_cell" : Str) (defArgs (top 13)) (defBody (top 13)) (defScope (top 13)) .none kV6 dc6 pm6 an6 cd6 ct6), sl6⟩) (c6 : PySem.W.codeIn K cd6 ("_law_cell" : Str) = true) (q6 : PySem.W.keepIn K (.ref f6) = true)
    (a7 : PySem.W.nsIn K mainGlobals ("_law_deal" : Str) = some (some (.ref f7))) (l7 : K.lookup f7 = some ⟨oc7, od7, .func (PySem.W.fnOf ("_law_deal" : Str) ("_law_deal" : Str) (defArgs (top 14)) (defBody (top 14)) (defScope (top 14)) .none kV7 dc7 pm7 an7 cd7 ct7), sl7⟩) (c7 : PySem.W.codeIn K cd7 ("_law_deal" : Str) = true) (q7 : PySem.W.keepIn K (.ref f7) = true)
    (a8 : PySem.W.nsIn K mainGlobals ("_law_kept" : Str) = some (some (.ref f8))) (l8 : K.lookup f8 = some ⟨oc8, od8, .func (PySem.W.fnOf ("_law_kept" : Str) ("_law_kept" : Str) (defArgs (top 15)) (defBody (top 15)) (defScope (top 15)) .none kV8 dc8 pm8 an8 cd8 ct8), sl8⟩) (c8 : PySem.W.codeIn K cd8 ("_law_kept" : Str) = true) (q8 : PySem.W.keepIn K (.ref f8) = true)
    (a9 : PySem.W.nsIn K mainGlobals ("_law_base" : Str) = some (some (.ref f9))) (l9 : K.lookup f9 = some ⟨oc9, od9, .func (PySem.W.fnOf ("_law_base" : Str) ("_law_base" : Str) (defArgs (top 16)) (defBody (top 16)) (defScope (top 16)) .none kV9 dc9 pm9 an9 cd9 ct9), sl9⟩) (c9 : PySem.W.codeIn K cd9 ("_law_base" : Str) = true) (q9 : PySem.W.keepIn K (.ref f9) = true)
    (a10 : PySem.W.nsIn K mainGlobals ("_law_board" : Str) = some (some (.ref f10))) (l10 : K.lookup f10 = some ⟨oc10, od10, .func (PySem.W.fnOf ("_law_board" : Str) ("_law_board" : Str) (defArgs (top 17)) (defBody (top 17)) (defScope (top 17)) .none kV10 dc10 pm10 an10 cd10 ct10), sl10⟩) (c10 : PySem.W.codeIn K cd10 ("_law_board" : Str) = true) (q10 : PySem.W.keepIn K (.ref f10) = true)
    (a11 : PySem.W.nsIn K mainGlobals ("_law_fallen" : Str) = some (some (.ref f11))) (l11 : K.lookup f11 = some ⟨oc11, od11, .func (PySem.W.fnOf ("_law_fallen" : Str) ("_law_fallen" : Str) (defArgs (top 18)) (defBody (top 18)) (defScope (top 18)) .none kV11 dc11 pm11 an11 cd11 ct11), sl11⟩) (c11 : PySem.W.codeIn K cd11 ("_law_fallen" : Str) = true) (q11 : PySem.W.keepIn K (.ref f11) = true)
    (a12 : PySem.W.nsIn K mainGlobals ("_law_same" : Str) = some (some (.ref f12))) (l12 : K.lookup f12 = some ⟨oc12, od12, .func (PySem.W.fnOf ("_law_same" : Str) ("_law_same" : Str) (defArgs (top 19)) (defBody (top 19)) (defScope (top 19)) .none kV12 dc12 pm12 an12 cd12 ct12), sl12⟩) (c12 : PySem.W.codeIn K cd12 ("_law_same" : Str) = true) (q12 : PySem.W.keepIn K (.ref f12) = true)
    (a13 : PySem.W.nsIn K mainGlobals ("law" : Str) = some (some (.ref f13))) (l13 : K.lookup f13 = some ⟨oc13, od13, .func (PySem.W.fnOf ("law" : Str) ("law" : Str) (defArgs (top 20)) (defBody (top 20)) (defScope (top 20)) .none kV13 dc13 pm13 an13 cd13 ct13), sl13⟩) (c13 : PySem.W.codeIn K cd13 ("law" : Str) = true) (q13 : PySem.W.keepIn K (.ref f13) = true)
    (ca1 : PySem.W.nsIn K mainGlobals ("Endless" : Str) = some (some (.ref C1))) (cx1 : PySem.W.excIn K C1 [.type "ValueError", .type "Exception", .type "BaseException", .type "object"] "ValueError.__new__" = true) (ck1 : PySem.W.keepIn K (.ref C1) = true) (cb1 : PySem.W.subIn K (.ref C1) (.type "BaseException") = some true) (ct_1 : PySem.W.typeIn K (.ref C1) = some (.type "type"))
    (ca2 : PySem.W.nsIn K mainGlobals ("NoCell" : Str) = some (some (.ref C2))) (cx2 : PySem.W.excIn K C2 [.type "ValueError", .type "Exception", .type "BaseException", .type "object"] "ValueError.__new__" = true) (ck2 : PySem.W.keepIn K (.ref C2) = true) (cb2 : PySem.W.subIn K (.ref C2) (.type "BaseException") = some true) (ct_2 : PySem.W.typeIn K (.ref C2) = some (.type "type"))
    (ga0 : PySem.W.nsIn K mainGlobals ("AROUND" : Str) = some (some (.ref t0)))
    (tl0 : K.lookup t0 = some ⟨.type "tuple", dd0, .seq ([.ref t0_0, .ref t0_1, .ref t0_2, .ref t0_3, .ref t0_4, .ref t0_5, .ref t0_6, .ref t0_7] : List Value).toArray tn0, ts0⟩)
    (tl0_7 : K.lookup t0_7 = some ⟨.type "tuple", dd0_7, .seq ([.int (1) k0_7_0, .int (1) k0_7_1] : List Value).toArray tn0_7, ts0_7⟩)
    (tl0_6 : K.lookup t0_6 = some ⟨.type "tuple", dd0_6, .seq ([.int (1) k0_6_0, .int (0) k0_6_1] : List Value).toArray tn0_6, ts0_6⟩)
    (tl0_5 : K.lookup t0_5 = some ⟨.type "tuple", dd0_5, .seq ([.int (1) k0_5_0, .int (-1) k0_5_1] : List Value).toArray tn0_5, ts0_5⟩)
    (tl0_4 : K.lookup t0_4 = some ⟨.type "tuple", dd0_4, .seq ([.int (0) k0_4_0, .int (1) k0_4_1] : List Value).toArray tn0_4, ts0_4⟩)
    (tl0_3 : K.lookup t0_3 = some ⟨.type "tuple", dd0_3, .seq ([.int (0) k0_3_0, .int (-1) k0_3_1] : List Value).toArray tn0_3, ts0_3⟩)
    (tl0_2 : K.lookup t0_2 = some ⟨.type "tuple", dd0_2, .seq ([.int (-1) k0_2_0, .int (1) k0_2_1] : List Value).toArray tn0_2, ts0_2⟩)
    (tl0_1 : K.lookup t0_1 = some ⟨.type "tuple", dd0_1, .seq ([.int (-1) k0_1_0, .int (0) k0_1_1] : List Value).toArray tn0_1, ts0_1⟩)
    (tl0_0 : K.lookup t0_0 = some ⟨.type "tuple", dd0_0, .seq ([.int (-1) k0_0_0, .int (-1) k0_0_1] : List Value).toArray tn0_0, ts0_0⟩)
    (n0 : PySem.W.nsIn K mainGlobals ("all" : Str) = some none)
    (n1 : PySem.W.nsIn K mainGlobals ("bool" : Str) = some none)
    (n2 : PySem.W.nsIn K mainGlobals ("divmod" : Str) = some none)
    (n3 : PySem.W.nsIn K mainGlobals ("int" : Str) = some none)
    (n4 : PySem.W.nsIn K mainGlobals ("isinstance" : Str) = some none)
    (n5 : PySem.W.nsIn K mainGlobals ("len" : Str) = some none)
    (n6 : PySem.W.nsIn K mainGlobals ("list" : Str) = some none)
    (n7 : PySem.W.nsIn K mainGlobals ("max" : Str) = some none)
    (n8 : PySem.W.nsIn K mainGlobals ("min" : Str) = some none)
    (n9 : PySem.W.nsIn K mainGlobals ("range" : Str) = some none)
    (n10 : PySem.W.nsIn K mainGlobals ("sorted" : Str) = some none)
    (n11 : PySem.W.nsIn K mainGlobals ("str" : Str) = some none)
    (n12 : PySem.W.nsIn K mainGlobals ("tuple" : Str) = some none)
    (n13 : PySem.W.nsIn K mainGlobals ("zip" : Str) = some none)
    : EL.Tok P w K mg (fun c => match c with | 1 => C1 | 2 => C2 | _ => 0) glob text := by
  refine ⟨fun d hd => ?_, fun x hx => ?_, fun x k hx => ?_, fun x c hx => ?_⟩
  · simp only [text, List.mem_cons, List.not_mem_nil, or_false] at hd
    rcases hd with rfl | rfl | rfl | rfl | rfl | rfl | rfl | rfl | rfl | rfl | rfl | rfl | rfl | rfl
    · have e : d_look_finite.ps = [("shape" : Str)] := by decide +kernel
      rw [e]
      exact ⟨f0, _, fun_mk (st := top 6) l0 c0 q0, PySem.W.mg_of X G a0, fun us hl => match us, hl with | [_], _ => rfl⟩
    · have e : d_flooded.ps = [("some" : Str), ("start" : Str), ("steps" : Str)] := by decide +kernel
      rw [e]
      exact ⟨f1, _, fun_mk (st := top 7) l1 c1 q1, PySem.W.mg_of X G a1, fun us hl => match us, hl with | [_, _, _], _ => rfl⟩
    · have e : d_noted.ps = [("cells" : Str)] := by decide +kernel
      rw [e]
      exact ⟨f2, _, fun_mk (st := top 8) l2 c2 q2, PySem.W.mg_of X G a2, fun us hl => match us, hl with | [_], _ => rfl⟩
    · have e : d_regions.ps = [("cells" : Str), ("steps" : Str)] := by decide +kernel
      rw [e]
      exact ⟨f3, _, fun_mk (st := top 9) l3 c3 q3, PySem.W.mg_of X G a3, fun us hl => match us, hl with | [_, _], _ => rfl⟩
    · have e : d_parts.ps = [("shape" : Str)] := by decide +kernel
      rw [e]
      exact ⟨f4, _, fun_mk (st := top 10) l4 c4 q4, PySem.W.mg_of X G a4, fun us hl => match us, hl with | [_], _ => rfl⟩
    · have e : d_part_of.ps = [("shape" : Str), ("cell" : Str)] := by decide +kernel
      rw [e]
      exact ⟨f5, _, fun_mk (st := top 11) l5 c5 q5, PySem.W.mg_of X G a5, fun us hl => match us, hl with | [_, _], _ => rfl⟩
    · have e : d__law_cell.ps = [("script" : Str), ("k" : Str)] := by decide +kernel
      rw [e]
      exact ⟨f6, _, fun_mk (st := top 13) l6 c6 q6, PySem.W.mg_of X G a6, fun us hl => match us, hl with | [_, _], _ => rfl⟩
    · have e : d__law_deal.ps = [("cell" : Str), ("salt" : Str)] := by decide +kernel
      rw [e]
      exact ⟨f7, _, fun_mk (st := top 14) l7 c7 q7, PySem.W.mg_of X G a7, fun us hl => match us, hl with | [_, _], _ => rfl⟩
    · have e : d__law_kept.ps = [("row" : Str), ("column" : Str)] := by decide +kernel
      rw [e]
      exact ⟨f8, _, fun_mk (st := top 15) l8 c8 q8, PySem.W.mg_of X G a8, fun us hl => match us, hl with | [_, _], _ => rfl⟩
    · have e : d__law_base.ps = [("number" : Str)] := by decide +kernel
      rw [e]
      exact ⟨f9, _, fun_mk (st := top 16) l9 c9 q9, PySem.W.mg_of X G a9, fun us hl => match us, hl with | [_], _ => rfl⟩
    · have e : d__law_board.ps = [("number" : Str)] := by decide +kernel
      rw [e]
      exact ⟨f10, _, fun_mk (st := top 17) l10 c10 q10, PySem.W.mg_of X G a10, fun us hl => match us, hl with | [_], _ => rfl⟩
    · have e : d__law_fallen.ps = [("cells" : Str), ("sides" : Str)] := by decide +kernel
      rw [e]
      exact ⟨f11, _, fun_mk (st := top 18) l11 c11 q11, PySem.W.mg_of X G a11, fun us hl => match us, hl with | [_, _], _ => rfl⟩
    · have e : d__law_same.ps = [("found" : Str), ("due" : Str)] := by decide +kernel
      rw [e]
      exact ⟨f12, _, fun_mk (st := top 19) l12 c12 q12, PySem.W.mg_of X G a12, fun us hl => match us, hl with | [_, _], _ => rfl⟩
    · have e : d_law.ps = [("script" : Str)] := by decide +kernel
      rw [e]
      exact ⟨f13, _, fun_mk (st := top 20) l13 c13 q13, PySem.W.mg_of X G a13, fun us hl => match us, hl with | [_], _ => rfl⟩
  · rw [List.contains_iff_mem] at hx
    simp only [text, List.mem_cons, List.not_mem_nil, or_false] at hx
    rcases hx with rfl | rfl | rfl | rfl | rfl | rfl | rfl | rfl | rfl | rfl | rfl | rfl | rfl | rfl
    · exact PySem.W.mg_none_of X G n0
    · exact PySem.W.mg_none_of X G n1
    · exact PySem.W.mg_none_of X G n2
    · exact PySem.W.mg_none_of X G n3
    · exact PySem.W.mg_none_of X G n4
    · exact PySem.W.mg_none_of X G n5
    · exact PySem.W.mg_none_of X G n6
    · exact PySem.W.mg_none_of X G n7
    · exact PySem.W.mg_none_of X G n8
    · exact PySem.W.mg_none_of X G n9
    · exact PySem.W.mg_none_of X G n10
    · exact PySem.W.mg_none_of X G n11
    · exact PySem.W.mg_none_of X G n12
    · exact PySem.W.mg_none_of X G n13
  · rw [List.contains_iff_mem] at hx
    simp only [text, List.mem_cons, List.not_mem_nil, or_false, Prod.mk.injEq] at hx
    rcases hx with ⟨rfl, rfl⟩
    · have r0_0 := rep_ktup (R := ⟨P, w, K, fun c => match c with | 1 => C1 | 2 => C2 | _ => 0⟩) (ds := [.int (-1), .int (-1)]) (vs := [.int (-1), .int (-1)]) tl0_0 (by show 2 ≤ 1000; decide) (.cons ⟨_, rfl⟩ (.cons ⟨_, rfl⟩ .nil)) (.cons (Rep.int_iff.mpr rfl) (.cons (Rep.int_iff.mpr rfl) .nil))
      have r0_1 := rep_ktup (R := ⟨P, w, K, fun c => match c with | 1 => C1 | 2 => C2 | _ => 0⟩) (ds := [.int (-1), .int (0)]) (vs := [.int (-1), .int (0)]) tl0_1 (by show 2 ≤ 1000; decide) (.cons ⟨_, rfl⟩ (.cons ⟨_, rfl⟩ .nil)) (.cons (Rep.int_iff.mpr rfl) (.cons (Rep.int_iff.mpr rfl) .nil))
      have r0_2 := rep_ktup (R := ⟨P, w, K, fun c => match c with | 1 => C1 | 2 => C2 | _ => 0⟩) (ds := [.int (-1), .int (1)]) (vs := [.int (-1), .int (1)]) tl0_2 (by show 2 ≤ 1000; decide) (.cons ⟨_, rfl⟩ (.cons ⟨_, rfl⟩ .nil)) (.cons (Rep.int_iff.mpr rfl) (.cons (Rep.int_iff.mpr rfl) .nil))
      have r0_3 := rep_ktup (R := ⟨P, w, K, fun c => match c with | 1 => C1 | 2 => C2 | _ => 0⟩) (ds := [.int (0), .int (-1)]) (vs := [.int (0), .int (-1)]) tl0_3 (by show 2 ≤ 1000; decide) (.cons ⟨_, rfl⟩ (.cons ⟨_, rfl⟩ .nil)) (.cons (Rep.int_iff.mpr rfl) (.cons (Rep.int_iff.mpr rfl) .nil))
      have r0_4 := rep_ktup (R := ⟨P, w, K, fun c => match c with | 1 => C1 | 2 => C2 | _ => 0⟩) (ds := [.int (0), .int (1)]) (vs := [.int (0), .int (1)]) tl0_4 (by show 2 ≤ 1000; decide) (.cons ⟨_, rfl⟩ (.cons ⟨_, rfl⟩ .nil)) (.cons (Rep.int_iff.mpr rfl) (.cons (Rep.int_iff.mpr rfl) .nil))
      have r0_5 := rep_ktup (R := ⟨P, w, K, fun c => match c with | 1 => C1 | 2 => C2 | _ => 0⟩) (ds := [.int (1), .int (-1)]) (vs := [.int (1), .int (-1)]) tl0_5 (by show 2 ≤ 1000; decide) (.cons ⟨_, rfl⟩ (.cons ⟨_, rfl⟩ .nil)) (.cons (Rep.int_iff.mpr rfl) (.cons (Rep.int_iff.mpr rfl) .nil))
      have r0_6 := rep_ktup (R := ⟨P, w, K, fun c => match c with | 1 => C1 | 2 => C2 | _ => 0⟩) (ds := [.int (1), .int (0)]) (vs := [.int (1), .int (0)]) tl0_6 (by show 2 ≤ 1000; decide) (.cons ⟨_, rfl⟩ (.cons ⟨_, rfl⟩ .nil)) (.cons (Rep.int_iff.mpr rfl) (.cons (Rep.int_iff.mpr rfl) .nil))
      have r0_7 := rep_ktup (R := ⟨P, w, K, fun c => match c with | 1 => C1 | 2 => C2 | _ => 0⟩) (ds := [.int (1), .int (1)]) (vs := [.int (1), .int (1)]) tl0_7 (by show 2 ≤ 1000; decide) (.cons ⟨_, rfl⟩ (.cons ⟨_, rfl⟩ .nil)) (.cons (Rep.int_iff.mpr rfl) (.cons (Rep.int_iff.mpr rfl) .nil))
      have r0 := rep_ktup (R := ⟨P, w, K, fun c => match c with | 1 => C1 | 2 => C2 | _ => 0⟩) (ds := [.tup [.int (-1), .int (-1)], .tup [.int (-1), .int (0)], .tup [.int (-1), .int (1)], .tup [.int (0), .int (-1)], .tup [.int (0), .int (1)], .tup [.int (1), .int (-1)], .tup [.int (1), .int (0)], .tup [.int (1), .int (1)]]) (vs := [.ref t0_0, .ref t0_1, .ref t0_2, .ref t0_3, .ref t0_4, .ref t0_5, .ref t0_6, .ref t0_7]) tl0 (by show 8 ≤ 1000; decide) (.cons rfl (.cons rfl (.cons rfl (.cons rfl (.cons rfl (.cons rfl (.cons rfl (.cons rfl .nil)))))))) (.cons (r0_0) (.cons (r0_1) (.cons (r0_2) (.cons (r0_3) (.cons (r0_4) (.cons (r0_5) (.cons (r0_6) (.cons (r0_7) .nil))))))))
      exact ⟨_, .ref t0, PySem.W.mg_of X G ga0, rfl, r0⟩
  · rw [List.contains_iff_mem] at hx
    simp only [text, List.mem_cons, List.not_mem_nil, or_false, Prod.mk.injEq] at hx
    rcases hx with ⟨rfl, rfl⟩ | ⟨rfl, rfl⟩
    · exact ⟨PySem.W.mg_of X G ca1, ck1, ⟨_, _, _, _, PySem.F.excBase_ValueError, cx1⟩, cb1, ct_1⟩
    · exact ⟨PySem.W.mg_of X G ca2, ck2, ⟨_, _, _, _, PySem.F.excBase_ValueError, cx2⟩, cb2, ct_2⟩
end K68

set_option linter.all false
/-! floods, in plain Lean -/
namespace Fl8
abbrev P := Int × Int
def addP (p s : P) : P := (p.1 + s.1, p.2 + s.2)
def try1 (c : P) (st : List P × List P) (s : P) : List P × List P := if addP c s ∈ st.1 then (st.1.erase (addP c s), st.2 ++ [addP c s]) else st
def turnP (steps : List P) (c : P) (st : List P × List P) : List P × List P := steps.foldl (try1 c) st
def flo (steps : List P) : Nat → List P → List P → Nat → List P × List P
  | 0, left, found, _ => (left, found)
  | n + 1, left, found, i => match found[i]? with
    | none => (left, found)
    | some c => flo steps n (turnP steps c (left, found)).1 (turnP steps c (left, found)).2 (i + 1)
inductive Reach (steps : List P) (S : P → Prop) (a : P) : P → Prop
  | refl : S a → Reach steps S a a
  | step {b s : P} : Reach steps S a b → s ∈ steps → S (addP b s) → Reach steps S a (addP b s)
theorem Reach.mem {steps : List P} {S : P → Prop} {a b : P} (h : Reach steps S a b) : S b := by
  cases h with
  | refl h => exact h
  | step _ _ h => exact h
theorem Reach.trans {steps : List P} {S : P → Prop} {a b c : P} (h : Reach steps S a b) (k : Reach steps S b c) : Reach steps S a c := by
  induction k with
  | refl _ => exact h
  | step _ m s ih => exact .step ih m s
def Sym (steps : List P) : Prop := ∀ s ∈ steps, (-s.1, -s.2) ∈ steps
theorem Reach.start {steps : List P} {S : P → Prop} {a b : P} (h : Reach steps S a b) : S a := by
  induction h with
  | refl h => exact h
  | step _ _ _ ih => exact ih
theorem Reach.symm {steps : List P} (hs : Sym steps) {S : P → Prop} {a b : P} (h : Reach steps S a b) : Reach steps S b a := by
  induction h with
  | refl h => exact .refl h
  | @step b s h m k ih =>
    have e : addP (addP b s) (-s.1, -s.2) = b := by
      unfold addP
      ext <;> simp <;> omega
    have h1 : Reach steps S (addP b s) b := by
      have := Reach.step (Reach.refl (steps := steps) k) (hs s m) (by rw [e]; exact h.mem)
      rwa [e] at this
    exact h1.trans ih
/-! a turn -/
structure Tn (S : List P) (st : List P × List P) : Prop where
  perm : (st.2 ++ st.1).Perm S
  nd : S.Nodup
theorem Tn.try1 {S : List P} {st : List P × List P} (h : Tn S st) (c s : P) : Tn S (try1 c st s) := by
  unfold Fl8.try1
  split
  · rename_i m
    refine ⟨?_, h.nd⟩
    have h1 : (addP c s :: st.1.erase (addP c s)).Perm st.1 := (List.perm_cons_erase m).symm
    have : (st.2 ++ [addP c s] ++ st.1.erase (addP c s)).Perm (st.2 ++ st.1) := by
      rw [List.append_assoc]
      exact List.Perm.append_left _ h1
    exact this.trans h.perm
  · exact h
theorem Tn.turn {S : List P} (c : P) : ∀ {steps : List P} {st : List P × List P}, Tn S st → Tn S (turnP steps c st)
  | [], st, h => h
  | s :: r, st, h => Tn.turn c (steps := r) (h.try1 c s)
theorem try1_pre (c s : P) (st : List P × List P) : ∃ l, (try1 c st s).2 = st.2 ++ l ∧ ∀ x ∈ l, x = addP c s ∧ x ∈ st.1 := by
  unfold try1
  split
  · rename_i m
    exact ⟨[addP c s], rfl, fun x hx => by simp at hx; exact ⟨hx, hx ▸ m⟩⟩
  · exact ⟨[], by simp, fun x hx => by cases hx⟩
theorem try1_sub (c s : P) (st : List P × List P) : ∀ x ∈ (try1 c st s).1, x ∈ st.1 := by
  unfold try1
  split
  · exact fun x hx => List.mem_of_mem_erase hx
  · exact fun x hx => hx
theorem try1_not {S : List P} {st : List P × List P} (h : Tn S st) (c s : P) : addP c s ∉ (try1 c st s).1 := by
  unfold try1
  split
  · rename_i m
    have hn : st.1.Nodup := by
      have := (h.perm.nodup_iff.mpr h.nd)
      exact (List.nodup_append.mp this).2.1
    exact fun z => (List.Nodup.mem_erase_iff hn).mp z |>.1 rfl
  · assumption
theorem turn_pre (c : P) : ∀ (steps : List P) (st : List P × List P), ∃ l, (turnP steps c st).2 = st.2 ++ l ∧ ∀ x ∈ l, ∃ s ∈ steps, x = addP c s ∧ x ∈ st.1
  | [], st => ⟨[], by simp [turnP], fun x hx => by cases hx⟩
  | s :: r, st => by
    obtain ⟨l1, e1, h1⟩ := try1_pre c s st
    obtain ⟨l2, e2, h2⟩ := turn_pre c r (try1 c st s)
    refine ⟨l1 ++ l2, ?_, fun x hx => ?_⟩
    · show (turnP r c (try1 c st s)).2 = _
      rw [e2, e1, List.append_assoc]
    · rcases List.mem_append.mp hx with h | h
      · exact ⟨s, List.mem_cons_self, h1 x h⟩
      · obtain ⟨t, m, e, k⟩ := h2 x h
        exact ⟨t, List.mem_cons_of_mem _ m, e, try1_sub c s st x k⟩
theorem turn_sub (c : P) : ∀ (steps : List P) (st : List P × List P), ∀ x ∈ (turnP steps c st).1, x ∈ st.1
  | [], st, x, h => h
  | s :: r, st, x, h => try1_sub c s st x (turn_sub c r (try1 c st s) x h)
theorem turn_not {S : List P} (c : P) : ∀ (steps : List P) {st : List P × List P}, Tn S st → ∀ s ∈ steps, addP c s ∉ (turnP steps c st).1
  | [], st, _, s, m => by cases m
  | t :: r, st, h, s, m => by
    rcases List.mem_cons.mp m with e | m
    · subst e
      exact fun z => try1_not h c s (turn_sub c r _ _ z)
    · exact turn_not c r (h.try1 c t) s m
theorem Tn.len {S : List P} {st : List P × List P} (h : Tn S st) : st.2.length + st.1.length = S.length := by
  have := h.perm.length_eq
  rwa [List.length_append] at this
/-- what a flood gives -/
theorem flo_spec {steps : List P} {S : List P} {a : P} : ∀ (n : Nat) (st : List P × List P) (i : Nat), Tn S st → (∀ x ∈ st.2, Reach steps (· ∈ S) a x) → (∀ (j : Nat) (x : P), j < i → st.2[j]? = some x → ∀ s ∈ steps, addP x s ∉ st.1) → i ≤ st.2.length → S.length - i < n →
    Tn S (flo steps n st.1 st.2 i) ∧ (∃ l, (flo steps n st.1 st.2 i).2 = st.2 ++ l) ∧ (∀ x ∈ (flo steps n st.1 st.2 i).2, Reach steps (· ∈ S) a x) ∧ ∀ x ∈ (flo steps n st.1 st.2 i).2, ∀ s ∈ steps, addP x s ∉ (flo steps n st.1 st.2 i).1
  | 0, st, i, h, hr, hc, hi, hn => by omega
  | n + 1, st, i, h, hr, hc, hi, hn => by
    unfold flo
    cases e : st.2[i]? with
    | none =>
      simp only
      refine ⟨h, ⟨[], by simp⟩, hr, fun x hx s m => ?_⟩
      obtain ⟨j, hj, ej⟩ := List.getElem_of_mem hx
      have : st.2.length ≤ i := List.getElem?_eq_none_iff.mp e
      exact hc j x (by omega) (by rw [List.getElem?_eq_getElem hj, ej]) s m
    | some c =>
      simp only
      have hlt := (List.getElem?_eq_some_iff.mp e).1
      have hmem : c ∈ st.2 := List.mem_of_getElem? e
      have T := h.turn c (steps := steps)
      obtain ⟨l, e1, h1⟩ := turn_pre c steps st
      have hlen : st.2.length ≤ S.length := by have := h.len; omega
      have hrc := hr c hmem
      have R2 : ∀ x ∈ (turnP steps c st).2, Reach steps (· ∈ S) a x := fun x hx => by
        rw [e1] at hx
        rcases List.mem_append.mp hx with hx | hx
        · exact hr x hx
        · obtain ⟨s, m, rfl, k⟩ := h1 x hx
          exact .step hrc m (h.perm.mem_iff.mp (List.mem_append_right _ k))
      obtain ⟨q1, ⟨l2, q2⟩, q3, q4⟩ := flo_spec n (turnP steps c st) (i + 1) T R2 (fun j x hj ej s m => by
          by_cases hji : j < i
          · rw [e1, List.getElem?_append_left (by omega)] at ej
            exact fun z => hc j x hji ej s m (turn_sub c steps st _ z)
          · have : j = i := by omega
            subst this
            rw [e1, List.getElem?_append_left hlt, e] at ej
            cases ej
            exact turn_not c steps h s m) (by rw [e1, List.length_append]; omega) (by omega)
      exact ⟨q1, ⟨l ++ l2, by rw [q2, e1, List.append_assoc]⟩, q3, q4⟩
/-- a flood from a cell of S: the cells that it reaches -/
theorem flo_part {steps : List P} {S : List P} (hn : S.Nodup) {a : P} (ha : a ∈ S) {n : Nat} (hl : S.length < n) :
    ((flo steps n (S.erase a) [a] 0).2 ++ (flo steps n (S.erase a) [a] 0).1).Perm S ∧ ∀ x, x ∈ (flo steps n (S.erase a) [a] 0).2 ↔ Reach steps (· ∈ S) a x := by
  have T : Tn S (S.erase a, [a]) := ⟨(List.perm_cons_erase ha).symm, hn⟩
  obtain ⟨q1, ⟨l, q2⟩, q3, q4⟩ := flo_spec (steps := steps) (a := a) n (S.erase a, [a]) 0 T (fun x hx => by simp at hx; subst hx; exact .refl ha) (fun j x hj => by omega) (by simp) (by omega)
  refine ⟨q1.perm, fun x => ⟨q3 x, fun h => ?_⟩⟩
  induction h with
  | refl _ =>
    rw [q2]
    simp
  | @step b s h m k ih =>
    have : addP b s ∈ (flo steps n (S.erase a) [a] 0).2 ++ (flo steps n (S.erase a) [a] 0).1 := q1.perm.mem_iff.mpr k
    rcases List.mem_append.mp this with z | z
    · exact z
    · exact absurd z (q4 b ih s m)
/-- floods one after the other: the cells in order; S: what is left -/
def prts (steps : List P) (n : Nat) : List P → List P → List (List P)
  | [], _ => []
  | c :: cs, S => if c ∈ S then (flo steps n (S.erase c) [c] 0).2 :: prts steps n cs (flo steps n (S.erase c) [c] 0).1 else prts steps n cs S
/-- what is left is closed in S0 -/
def Cl (steps : List P) (S0 S : List P) : Prop := (∀ x ∈ S, x ∈ S0) ∧ ∀ x ∈ S, ∀ s ∈ steps, addP x s ∈ S0 → addP x s ∈ S
theorem reach_cl {steps : List P} {S0 S : List P} (hc : Cl steps S0 S) {a : P} (ha : a ∈ S) (x : P) : Reach steps (· ∈ S) a x ↔ Reach steps (· ∈ S0) a x := by
  constructor
  · intro h
    induction h with
    | refl h => exact .refl (hc.1 _ h)
    | step _ m k ih => exact .step ih m (hc.1 _ k)
  · intro h
    induction h with
    | refl _ => exact .refl ha
    | step _ m k ih => exact .step ih m (hc.2 _ ih.mem _ m k)
theorem prts_spec {steps : List P} (hs : Sym steps) {S0 : List P} {n : Nat} : ∀ (cs S : List P), S.Nodup → S.length < n → Cl steps S0 S → ∀ p ∈ prts steps n cs S, p.Nodup ∧ ∃ c, ∀ x, x ∈ p ↔ Reach steps (· ∈ S0) c x
  | [], S, _, _, _, p, h => by simp [prts] at h
  | c :: cs, S, hn, hl, hc, p, h => by
    unfold prts at h
    split at h
    · rename_i hm
      obtain ⟨h1, h2⟩ := flo_part (steps := steps) hn hm hl
      have hnd := h1.nodup_iff.mpr hn
      obtain ⟨n1, n2, n3⟩ := List.nodup_append.mp hnd
      have hcl : Cl steps S0 (flo steps n (S.erase c) [c] 0).1 := by
        refine ⟨fun x hx => hc.1 x (h1.mem_iff.mp (List.mem_append_right _ hx)), fun x hx s m k => ?_⟩
        have hxS : x ∈ S := h1.mem_iff.mp (List.mem_append_right _ hx)
        have : addP x s ∈ S := hc.2 x hxS s m k
        rcases List.mem_append.mp (h1.mem_iff.mpr this) with z | z
        · exfalso
          have r := (h2 _).mp z
          have back : Reach steps (· ∈ S) (addP x s) x := (Reach.step (Reach.refl (steps := steps) (S := (· ∈ S)) hxS) m this).symm hs
          exact n3 x ((h2 x).mpr (r.trans back)) x hx rfl
        · exact z
      rcases List.mem_cons.mp h with e | h
      · subst e
        exact ⟨n1, c, fun x => by rw [h2 x]; exact reach_cl hc hm x⟩
      · exact prts_spec hs cs _ n2 (by have := h1.length_eq; rw [List.length_append] at this; omega) hcl p h
    · exact prts_spec hs cs S hn hl hc p h
/-- a flood anywhere in a part gives the part's cells -/
theorem part_same {steps : List P} (hs : Sym steps) {S0 : List P} (hn : S0.Nodup) {n : Nat} (hl : S0.length < n) {cs : List P} {p : List P} (hp : p ∈ prts steps n cs S0) {a : P} (ha : a ∈ p) : a ∈ S0 ∧ (flo steps n (S0.erase a) [a] 0).2.Perm p := by
  obtain ⟨h1, c, h2⟩ := prts_spec hs (S0 := S0) cs S0 hn hl ⟨fun _ h => h, fun _ _ _ _ h => h⟩ p hp
  have hr := (h2 a).mp ha
  have hm : a ∈ S0 := hr.mem
  obtain ⟨q1, q2⟩ := flo_part (steps := steps) hn hm hl
  refine ⟨hm, ?_⟩
  have nd := (List.nodup_append.mp (q1.nodup_iff.mpr hn)).1
  refine (List.perm_ext_iff_of_nodup nd h1).mpr fun x => ?_
  rw [q2 x, h2 x]
  exact ⟨fun h => hr.trans h, fun h => (hr.symm hs).trans h⟩
end Fl8

set_option Elab.async false
set_option linter.all false
set_option maxRecDepth 100000
set_option maxHeartbeats 4000000
/-! evaluation, plain -/
namespace EL
open PySem PySem.Spec PyProof.Rows L2
theorem callD_at {fuel : Nat} {glob : Nat → D} {fs : Nat → Fn} {k f : Nat} {args : List Sl} {fn : Fn} (hf : fs f = fn) (hl : args.length = fn.np) (ho : (args.drop 1).any isOw = false) :
    callD fuel glob fs (k + 1) f args = endF (lentOf args) (evS ⟨callD fuel glob fs k, lentOf args, fuel, glob⟩ fn.body (args ++ List.replicate (fn.nv - fn.np) .no)) := by
  simp only [callD, hf, hl, beq_self_eq_true, ho, Bool.not_false, Bool.and_self, if_true]
/-- a for whose turns all go on -/
theorem forL_inv {lt : Bool} {tg : List Nat} {b : Ds → Fl} (I : List D → Ds → Prop) : ∀ (ds : List D) (δ : Ds), I ds δ → (∀ d ds δ, I (d :: ds) δ → ∃ δ1 δ2, bindT lt tg d δ = some δ1 ∧ b δ1 = .nx δ2 ∧ I ds δ2) → ∃ δ', forL lt tg b ds δ = .nx δ' ∧ I [] δ'
  | [], δ, h, _ => ⟨δ, by simp only [forL], h⟩
  | d :: ds, δ, h, st => by
    obtain ⟨δ1, δ2, e1, e2, h2⟩ := st d ds δ h
    obtain ⟨δ', e3, h3⟩ := forL_inv I ds δ2 h2 st
    exact ⟨δ', by simp only [forL, e1, e2]; exact e3, h3⟩
theorem whl_true {c : Ds → Oc Rv} {b : Ds → Fl} {n : Nat} {δ δ1 δ2 : Ds} (hc : c δ = .ok (bB true) δ1) (hb : b δ1 = .nx δ2) : whlL c b (n + 1) δ = whlL c b n δ2 := by
  simp only [whlL, hc, Oc.toFl, bB, hb]
theorem whl_false {c : Ds → Oc Rv} {b : Ds → Fl} {n : Nat} {δ δ1 : Ds} (hc : c δ = .ok (bB false) δ1) : whlL c b (n + 1) δ = .nx δ1 := by
  simp only [whlL, hc, Oc.toFl, bB]
/-! ### pairs -/
def pD (p : Int × Int) : D := .tup [.int p.1, .int p.2]
def tD (_ : Int × Int) : D := .bl true
/-- a dict of cells, all told True -/
def cD (l : List (Int × Int)) : D := .dic (l.map pD) (l.map tD)
theorem deq_pD (a b : Int × Int) : deq (pD a) (pD b) = decide (a = b) := by
  obtain ⟨a1, a2⟩ := a
  obtain ⟨b1, b2⟩ := b
  simp only [pD, deq, deqs, Bool.and_true, Prod.mk.injEq]
  by_cases h1 : a1 = b1 <;> by_cases h2 : a2 = b2 <;> simp [h1, h2]
theorem dlook_cD (x : Int × Int) : ∀ l : List (Int × Int), dlook (l.map pD) (l.map tD) (pD x) = if x ∈ l then some (.bl true) else none
  | [] => by simp [dlook]
  | a :: l => by
    simp only [List.map_cons, dlook, deq_pD, dlook_cD x l, List.mem_cons]
    by_cases h : a = x
    · subst h; simp [tD]
    · simp [h, Ne.symm h]
theorem ddel_cD (x : Int × Int) : ∀ l : List (Int × Int), ddel (l.map pD) (l.map tD) (pD x) = ((l.erase x).map pD, (l.erase x).map tD)
  | [] => by simp [ddel]
  | a :: l => by
    simp only [List.map_cons, ddel, deq_pD, ddel_cD x l]
    by_cases h : a = x
    · subst h; simp
    · rw [List.erase_cons_tail (by simpa using h)]
      simp [h]
theorem dput_cD (x : Int × Int) : ∀ l : List (Int × Int), dput (l.map pD) (l.map tD) (pD x) (.bl true) = if x ∈ l then (l.map pD, l.map tD) else ((l ++ [x]).map pD, (l ++ [x]).map tD)
  | [] => by simp [dput, tD]
  | a :: l => by
    simp only [List.map_cons, dput, deq_pD, dput_cD x l, List.mem_cons]
    by_cases h : a = x
    · subst h; simp [tD]
    · by_cases hm : x ∈ l
      · simp [h, Ne.symm h, hm]
      · simp [h, Ne.symm h, hm]
theorem tkey_pD (x : Int × Int) : tkey (pD x) = some [.inl x.1, .inl x.2] := by simp only [pD, tkey, skeys, skey]
theorem kSort_cD (x : Int × Int) (l : List (Int × Int)) : kSort (l.map pD) (pD x) = true := by
  unfold kSort
  rw [Bool.or_eq_true]
  right
  rw [Bool.and_eq_true, tkey_pD]
  refine ⟨List.all_eq_true.mpr fun d hd => ?_, rfl⟩
  obtain ⟨p, _, rfl⟩ := List.mem_map.mp hd
  rw [tkey_pD]
  rfl
theorem kIx_p0 (p : Int × Int) (δ : Ds) : kIx (.im (pD p)) (.im (.int 0)) δ = .ok (.im (.int p.1)) δ := rfl
theorem kIx_p1 (p : Int × Int) (δ : Ds) : kIx (.im (pD p)) (.im (.int 1)) δ = .ok (.im (.int p.2)) δ := rfl
theorem kIx_l {ra rb : Rv} {δ : Ds} {ds : List D} {i : Int} {d : D} (h1 : look ra δ = some (.lst ds)) (h2 : look rb δ = some (.int i)) (h3 : atI ds i = some d) : kIx ra rb δ = .ok (.im d) δ := by
  unfold kIx
  rw [h1, h2]
  simp only [h3]
theorem kAdd_i {δ : Ds} {a b : Int} : kAdd (.im (.int a)) (.im (.int b)) δ = .ok (.im (.int (a + b))) δ := rfl
theorem evC_in {l : List (Int × Int)} {x : Int × Int} : evC .inn (pD x) (cD l) = some (.bl (decide (x ∈ l))) := by
  simp only [evC, cD, kSort_cD, dlook_cD, if_true]
  by_cases h : x ∈ l <;> simp [h]
theorem atN {α : Type} {l : List α} {i : Nat} {x : α} (h : l[i]? = some x) : atI l (i : Int) = some x := by
  have hlt := (List.getElem?_eq_some_iff.mp h).1
  unfold atI ixN
  rw [if_pos (by omega), if_pos (by omega)]
  simpa using h
end EL
namespace K68
open PySem PySem.Spec PyProof.Rows L2 EL Fl8
theorem fs_flooded : text.fs 1 = ⟨3, 7, b_flooded⟩ := by
  show (⟨d_flooded.np, _, _⟩ : Fn) = _
  rw [show d_flooded.np = 3 from by decide +kernel]
  rfl
/-- one step of a turn of flooded -/
theorem flooded_step {C : Cn} (hlt : C.lt = true) (left found : List (Int × Int)) (st steps : D) (i : Nat) (c s : Int × Int) (hc : found[i]? = some c) (s6 : Sl) (hz : left.length + found.length < sizeLine) :
    evS C (.seq (.asg 6 (.tup (.cons (.bin .add (.ix (.ix (.var 3) (.var 4)) (.cst (.int 0))) (.ix (.var 5) (.cst (.int 0)))) (.cons (.bin .add (.ix (.ix (.var 3) (.var 4)) (.cst (.int 1))) (.ix (.var 5) (.cst (.int 1)))) .nil)))) (.seq (.iff (.cmp .inn (.var 6) (.var 0)) (.seq (.expr (.popi 0 (.var 6))) (.seq (.app 3 (.var 6)) .skip)) .skip) .skip))
      [.ow (cD left), .im st, .im steps, .ow (.lst (found.map pD)), .im (.int (i : Int)), .im (pD s), s6] =
    .nx [.ow (cD (try1 c (left, found) s).1), .im st, .im steps, .ow (.lst ((try1 c (left, found) s).2.map pD)), .im (.int (i : Int)), .im (pD s), .im (pD (addP c s))] := by
  have hat : atI (found.map pD) (i : Int) = some (pD c) := atN (by rw [List.getElem?_map, hc]; rfl)
  have e2 : (.tup [.int (c.1 + s.1), .int (c.2 + s.2)] : D) = pD (addP c s) := rfl
  have hsz : (2 : Nat) ≤ sizeLine := by rw [sizeLine_eq]; decide
  have ht : (tkey (pD (addP c s))).isSome = true := by rw [tkey_pD]; rfl
  by_cases hm : addP c s ∈ left
  · have et : try1 c (left, found) s = (left.erase (addP c s), found ++ [addP c s]) := by
      unfold try1; rw [if_pos hm]
    rw [et]
    have hlen : left.length ≤ sizeLine := by omega
    have hlen2 : found.length < sizeLine := by omega
    have hl := dlook_cD (addP c s) left
    rw [if_pos hm] at hl
    simp [evS, evE, evL, ev2, ev1, Oc.bind, Oc.toFl, Rv.seen, look, kIx_p0, kIx_p1, kIx_l, kBin, kAdd_i, k2, hat, ims, froz, stor, hlt, hsz, e2, evC_in, hm]
    simp [cD, kSort_cD, ht, hlen, hlen2, hl, ddel_cD]
  · have et : try1 c (left, found) s = (left, found) := by
      unfold try1; rw [if_neg hm]
    rw [et]
    simp [evS, evE, evL, ev2, ev1, Oc.bind, Oc.toFl, Rv.seen, look, kIx_p0, kIx_p1, kIx_l, kBin, kAdd_i, k2, hat, ims, froz, stor, hlt, hsz, e2, evC_in, hm]
end K68

set_option Elab.async false
set_option linter.all false
set_option maxRecDepth 100000
set_option maxHeartbeats 4000000
/-! the program's flood -/
namespace EL
theorem evC_lt_i {a b : Int} : evC .lt (.int a) (.int b) = some (.bl (decide (a < b))) := by simp [evC, eqOk, layD, depD, dlt]
end EL
namespace Fl8
theorem try1_len (c s : P) (st : List P × List P) : (try1 c st s).1.length + (try1 c st s).2.length = st.1.length + st.2.length := by
  unfold try1
  split
  · rename_i m
    have := List.length_erase_of_mem m
    have h2 : 0 < st.1.length := List.length_pos_of_mem m
    simp only [List.length_append, List.length_cons, List.length_nil]
    omega
  · rfl
theorem turn_len (c : P) : ∀ (steps : List P) (st : List P × List P), (turnP steps c st).1.length + (turnP steps c st).2.length = st.1.length + st.2.length
  | [], st => rfl
  | s :: r, st => by
    have := turn_len c r (try1 c st s)
    rw [try1_len] at this
    exact this
end Fl8
namespace K68
open PySem PySem.Spec PyProof.Rows L2 EL Fl8
def stepB : MS := .seq (.asg 6 (.tup (.cons (.bin .add (.ix (.ix (.var 3) (.var 4)) (.cst (.int 0))) (.ix (.var 5) (.cst (.int 0)))) (.cons (.bin .add (.ix (.ix (.var 3) (.var 4)) (.cst (.int 1))) (.ix (.var 5) (.cst (.int 1)))) .nil)))) (.seq (.iff (.cmp .inn (.var 6) (.var 0)) (.seq (.expr (.popi 0 (.var 6))) (.seq (.app 3 (.var 6)) .skip)) .skip) .skip)
theorem turn_ev {C : Cn} (hlt : C.lt = true) (st steps : D) (i : Nat) (c : P) : ∀ (ss left found : List P) (s5 s6 : Sl), found[i]? = some c → left.length + found.length < sizeLine →
    ∃ s5' s6', forL true [5] (evS C stepB) (ss.map pD) [.ow (cD left), .im st, .im steps, .ow (.lst (found.map pD)), .im (.int (i : Int)), s5, s6] =
      .nx [.ow (cD (turnP ss c (left, found)).1), .im st, .im steps, .ow (.lst ((turnP ss c (left, found)).2.map pD)), .im (.int (i : Int)), s5', s6']
  | [], left, found, s5, s6, hc, hz => ⟨s5, s6, by simp only [List.map_nil, forL]; rfl⟩
  | s :: ss, left, found, s5, s6, hc, hz => by
    have h1 := flooded_step (C := C) hlt left found st steps i c s hc s6 hz
    obtain ⟨l, e, _⟩ := try1_pre c s (left, found)
    have hc' : (try1 c (left, found) s).2[i]? = some c := by
      rw [e, List.getElem?_append_left (List.getElem?_eq_some_iff.mp hc).1]
      exact hc
    have hl := try1_len c s (left, found)
    obtain ⟨s5', s6', h2⟩ := turn_ev hlt st steps i c ss (try1 c (left, found) s).1 (try1 c (left, found) s).2 (.im (pD s)) (.im (pD (addP c s))) hc' (by rw [hl]; exact hz)
    refine ⟨s5', s6', ?_⟩
    have hb : bindT true [5] (pD s) [.ow (cD left), .im st, .im steps, .ow (.lst (found.map pD)), .im (.int (i : Int)), s5, s6] = some [.ow (cD left), .im st, .im steps, .ow (.lst (found.map pD)), .im (.int (i : Int)), .im (pD s), s6] := by
      simp [bindT]
    simp only [List.map_cons, forL, hb]
    have h1 : evS C stepB [.ow (cD left), .im st, .im steps, .ow (.lst (found.map pD)), .im (.int (i : Int)), .im (pD s), s6] = _ := h1
    rw [h1]
    exact h2
def whlC : ME := .cmp .lt (.var 4) (.blt .len (.rd 3 .nil))
def whlB : MS := .seq (.loop .each (.cons (.var 2) .nil) [5] stepB) (.seq (.asg 4 (.bin .add (.var 4) (.cst (.int 1)))) .skip)
theorem whl_ev {C : Cn} (hlt : C.lt = true) (st : D) (ss : List P) : ∀ (n : Nat) (left found : List P) (i : Nat) (s5 s6 : Sl), left.length + found.length < sizeLine → i ≤ found.length → left.length + found.length - i < n →
    ∃ s4' s5' s6', whlL (evE C whlC) (evS C whlB) n [.ow (cD left), .im st, .im (.tup (ss.map pD)), .ow (.lst (found.map pD)), .im (.int (i : Int)), s5, s6] =
      .nx [.ow (cD (flo ss n left found i).1), .im st, .im (.tup (ss.map pD)), .ow (.lst ((flo ss n left found i).2.map pD)), s4', s5', s6']
  | 0, left, found, i, s5, s6, hz, hi, hn => by omega
  | n + 1, left, found, i, s5, s6, hz, hi, hn => by
    have hcond : evE C whlC [.ow (cD left), .im st, .im (.tup (ss.map pD)), .ow (.lst (found.map pD)), .im (.int (i : Int)), s5, s6] = .ok (bB (decide ((i : Int) < (found.length : Int)))) [.ow (cD left), .im st, .im (.tup (ss.map pD)), .ow (.lst (found.map pD)), .im (.int (i : Int)), s5, s6] := by
      simp [whlC, evE, evL, ev2, Oc.bind, Rv.seen, look, looks, evB1, f_len, bI, k2, evC_lt_i, bB]
    cases hf : found[i]? with
    | none =>
      have hlen := List.getElem?_eq_none_iff.mp hf
      have : decide ((i : Int) < (found.length : Int)) = false := decide_eq_false (by omega)
      rw [this] at hcond
      rw [whl_false hcond]
      have e : flo ss (n + 1) left found i = (left, found) := by
        unfold flo
        rw [hf]
      rw [e]
      exact ⟨_, _, _, rfl⟩
    | some c =>
      have hlen := (List.getElem?_eq_some_iff.mp hf).1
      have : decide ((i : Int) < (found.length : Int)) = true := decide_eq_true (by omega)
      rw [this] at hcond
      obtain ⟨s5', s6', h2⟩ := turn_ev hlt st (.tup (ss.map pD)) i c ss left found s5 s6 hf hz
      have hbody : evS C whlB [.ow (cD left), .im st, .im (.tup (ss.map pD)), .ow (.lst (found.map pD)), .im (.int (i : Int)), s5, s6] =
          .nx [.ow (cD (turnP ss c (left, found)).1), .im st, .im (.tup (ss.map pD)), .ow (.lst ((turnP ss c (left, found)).2.map pD)), .im (.int ((i + 1 : Nat) : Int)), s5', s6'] := by
        simp [whlB, evS, evE, evL, ev2, Oc.bind, Oc.toFl, look, looks, froz, srcD, lends, hlt, h2, kBin, kAdd_i, Rv.seen, stor]
      rw [whl_true hcond hbody]
      have hl := turn_len c ss (left, found)
      simp only at hl
      obtain ⟨l, e, _⟩ := turn_pre c ss (left, found)
      obtain ⟨s4', s5'', s6'', h3⟩ := whl_ev hlt st ss n (turnP ss c (left, found)).1 (turnP ss c (left, found)).2 (i + 1) s5' s6' (by omega) (by rw [e, List.length_append]; simp only; omega) (by omega)
      have e2 : flo ss (n + 1) left found i = flo ss n (turnP ss c (left, found)).1 (turnP ss c (left, found)).2 (i + 1) := by
        conv => lhs; unfold flo
        rw [hf]
      rw [e2]
      exact ⟨s4', s5'', s6'', h3⟩
/-- flooded(some, start, steps) -/
theorem flooded_ev {k : Nat} {S : List P} {a : P} {ss : List P} (ha : a ∈ S) (hz : S.length < 1000000) : callD 1000000000 glob text.fs (k + 1) 1 [.ow (cD S), .im (pD a), .im (.tup (ss.map pD))] =
    .ret (.fr (.lst ((flo ss 1000000000 (S.erase a) [a] 0).2.map pD))) (cD (flo ss 1000000000 (S.erase a) [a] 0).1) := by
  rw [callD_at fs_flooded rfl rfl]
  have hs : sizeLine = 16777216 := sizeLine_eq
  have hl := List.length_erase_of_mem ha
  have hpos : 0 < S.length := List.length_pos_of_mem ha
  obtain ⟨s4', s5', s6', hw⟩ := whl_ev (C := ⟨callD 1000000000 glob text.fs k, true, 1000000000, glob⟩) rfl (pD a) ss 1000000000 (S.erase a) [a] 0 .no .no (by simp only [List.length_cons, List.length_nil]; omega) (by simp) (by simp only [List.length_cons, List.length_nil]; omega)
  have hlk := dlook_cD a S
  rw [if_pos ha] at hlk
  have ht : (tkey (pD a)).isSome = true := by rw [tkey_pD]; rfl
  have hS : S.length ≤ sizeLine := by omega
  show endF true (evS ⟨callD 1000000000 glob text.fs k, true, 1000000000, glob⟩ b_flooded [.ow (cD S), .im (pD a), .im (.tup (ss.map pD)), .no, .no, .no, .no]) = _
  have e0 : b_flooded = .seq (.asg 3 (.lst (.cons (.var 1) .nil))) (.seq (.expr (.popi 0 (.var 1))) (.seq (.asg 4 (.cst (.int 0))) (.seq (.whl whlC whlB) (.seq (.ret (.var 3)) .skip)))) := rfl
  rw [e0]
  have h1 : (1 : Nat) ≤ sizeLine := by omega
  have e3 : cD S = .dic (S.map pD) (S.map tD) := rfl
  simp [evS, evE, evL, Oc.bind, Oc.toFl, look, froz, ims, stor, h1, e3, kSort_cD, ht, hS, hlk, ddel_cD]
  have e4 : (.dic ((S.erase a).map pD) ((S.erase a).map tD) : D) = cD (S.erase a) := rfl
  rw [e4]
  have hw : whlL (evE ⟨callD 1000000000 glob text.fs k, true, 1000000000, glob⟩ whlC) (evS ⟨callD 1000000000 glob text.fs k, true, 1000000000, glob⟩ whlB) 1000000000 [.ow (cD (S.erase a)), .im (pD a), .im (.tup (ss.map pD)), .ow (.lst [pD a]), .im (.int 0), .no, .no] = _ := hw
  rw [hw]
  simp [evS, evE, Oc.toFl, endF]
end K68

set_option Elab.async false
set_option linter.all false
set_option maxRecDepth 100000
set_option maxHeartbeats 4000000
/-! the program's parts, part_of -/
namespace EL
open PySem PySem.Spec PyProof.Rows L2
def insP (l : List (Int × Int)) (x : Int × Int) : List (Int × Int) := if x ∈ l then l else l ++ [x]
theorem setx_c {C : Cn} {δ : Ds} {i : Nat} {k m : ME} {p : Int × Int} {l : List (Int × Int)} (hm : evE C m δ = .ok (.im (.bl true)) δ) (hk : evE C k δ = .ok (.im (pD p)) δ) (hi : δ[i]? = some (.ow (cD l))) (hz : l.length < sizeLine) :
    evS C (.setx i k m) δ = .nx (δ.set i (.ow (cD (insP l p)))) := by
  simp only [evS, hm, Oc.toFl, froz, hi, hk]
  show (if kSort (l.map pD) (pD p) && decide ((l.map pD).length < sizeLine) then Fl.nx (δ.set i (.ow (.dic (dput (l.map pD) (l.map tD) (pD p) (.bl true)).1 (dput (l.map pD) (l.map tD) (pD p) (.bl true)).2))) else .bad) = _
  rw [kSort_cD, List.length_map, decide_eq_true hz, dput_cD]
  unfold insP cD
  by_cases h : p ∈ l <;> simp [h]
theorem insP_nd {l : List (Int × Int)} {x : Int × Int} (h : l.Nodup) : (insP l x).Nodup := by
  unfold insP
  split
  · exact h
  · rename_i n
    rw [List.nodup_append]
    exact ⟨h, by simp, fun a ha b hb e => by simp at hb; subst hb; exact n (e ▸ ha)⟩
theorem insP_len (l : List (Int × Int)) (x : Int × Int) : (insP l x).length ≤ l.length + 1 := by
  unfold insP
  split
  · omega
  · simp
def ntP (l cs : List (Int × Int)) : List (Int × Int) := cs.foldl insP l
theorem ntP_nd : ∀ (cs l : List (Int × Int)), l.Nodup → (ntP l cs).Nodup
  | [], l, h => h
  | c :: cs, l, h => ntP_nd cs (insP l c) (insP_nd h)
theorem ntP_len : ∀ (cs l : List (Int × Int)), (ntP l cs).length ≤ l.length + cs.length
  | [], l => by simp [ntP]
  | c :: cs, l => by
    have h1 := ntP_len cs (insP l c)
    have h2 := insP_len l c
    simp only [List.length_cons]
    show (ntP (insP l c) cs).length ≤ _
    omega
theorem insP_mem {l : List (Int × Int)} {x y : Int × Int} : y ∈ insP l x ↔ y ∈ l ∨ y = x := by
  unfold insP
  split
  · rename_i h
    exact ⟨.inl, fun h' => h'.elim id fun e => e ▸ h⟩
  · simp
theorem ntP_mem {y : Int × Int} : ∀ (cs l : List (Int × Int)), y ∈ ntP l cs ↔ y ∈ l ∨ y ∈ cs
  | [], l => by simp [ntP]
  | c :: cs, l => by
    show y ∈ ntP (insP l c) cs ↔ _
    rw [ntP_mem cs, insP_mem, List.mem_cons, or_assoc]
theorem kind_pD (x : Int × Int) : kindD (pD x) = some 2 := rfl
theorem ord_pD (x : Int × Int) : ordD (pD x) = true := by simp [pD, ordD, ordDs]
theorem eqOk_pD (x : Int × Int) : eqOk (pD x) = true := by simp [pD, eqOk, layD, layDs, depD, depDs]
theorem dlt_pD (a b : Int × Int) : (dlt (pD a) (pD b)).isSome = true := by
  simp only [pD, dlt, dlts, deq]
  by_cases h1 : a.1 = b.1 <;> by_cases h2 : a.2 = b.2 <;> simp [h1, h2]
theorem pairOk_pD (l : List (Int × Int)) : pairOk (l.map pD) = true := by
  unfold pairOk
  rw [Bool.and_eq_true, Bool.or_eq_true]
  refine ⟨List.all_eq_true.mpr fun d hd => ?_, .inr ?_⟩
  · obtain ⟨p, _, rfl⟩ := List.mem_map.mp hd
    rw [ord_pD, eqOk_pD]; rfl
  · cases l with
    | nil => rfl
    | cons a l =>
      simp only [List.map_cons, Bool.and_eq_true]
      refine ⟨⟨by rw [kind_pD]; rfl, List.all_eq_true.mpr fun d hd => ?_⟩, List.all_eq_true.mpr fun x hx => List.all_eq_true.mpr fun y hy => ?_⟩
      · obtain ⟨p, _, rfl⟩ := List.mem_map.mp hd
        rw [kind_pD, kind_pD]; rfl
      · rw [← List.map_cons] at hx hy
        obtain ⟨p, _, rfl⟩ := List.mem_map.mp hx
        obtain ⟨q, _, rfl⟩ := List.mem_map.mp hy
        exact dlt_pD p q
/-- a row of pairs, sorted, as a tuple -/
def sD (l : List (Int × Int)) : D := .tup (dsort (l.map pD))
theorem sorted_pD (l : List (Int × Int)) : evB1 .sorted [.lst (l.map pD)] = some (.fr (.lst (dsort (l.map pD)))) := by
  simp only [evB1, f_sorted, pairOk_pD, if_true]
end EL
namespace K68
open PySem PySem.Spec PyProof.Rows L2 EL Fl8
theorem fs_look : text.fs 0 = ⟨1, 1, b_look_finite⟩ := by
  show (⟨d_look_finite.np, _, _⟩ : Fn) = _
  rw [show d_look_finite.np = 1 from by decide +kernel]
  rfl
theorem fs_noted : text.fs 2 = ⟨1, 3, b_noted⟩ := by
  show (⟨d_noted.np, _, _⟩ : Fn) = _
  rw [show d_noted.np = 1 from by decide +kernel]
  rfl
theorem fs_regions : text.fs 3 = ⟨2, 5, b_regions⟩ := by
  show (⟨d_regions.np, _, _⟩ : Fn) = _
  rw [show d_regions.np = 2 from by decide +kernel]
  rfl
theorem fs_parts : text.fs 4 = ⟨1, 1, b_parts⟩ := by
  show (⟨d_parts.np, _, _⟩ : Fn) = _
  rw [show d_parts.np = 1 from by decide +kernel]
  rfl
theorem fs_part_of : text.fs 5 = ⟨2, 3, b_part_of⟩ := by
  show (⟨d_part_of.np, _, _⟩ : Fn) = _
  rw [show d_part_of.np = 2 from by decide +kernel]
  rfl
abbrev CD (k : Nat) := callD 1000000000 glob text.fs k
/-- a shape: its cells, no rest -/
def shD (cs : List P) : D := .tup [.tup (cs.map pD), .bl false]
theorem look_ev {k : Nat} (cs : List P) : CD (k + 1) 0 [.im (shD cs)] = .ret (.im .non) .non := by
  unfold CD
  rw [callD_at fs_look rfl rfl]
  show endF false (evS ⟨CD k, false, 1000000000, glob⟩ b_look_finite [.im (shD cs)]) = _
  have h : ∀ δ, kIx (.im (shD cs)) (.im (.int 1)) δ = .ok (.im (.bl false)) δ := fun δ => rfl
  simp [b_look_finite, evS, evE, ev2, Oc.bind, Oc.toFl, Rv.seen, h, endF]
def noteB : MS := .seq (.setx 1 (.var 2) (.cst (.bl true))) .skip
theorem note_loop {C : Cn} (hlt : C.lt = false) (c0 : D) : ∀ (cs l : List P) (s2 : Sl), l.length + cs.length < sizeLine →
    ∃ s2', forL false [2] (evS C noteB) (cs.map pD) [.im c0, .ow (cD l), s2] = .nx [.im c0, .ow (cD (ntP l cs)), s2']
  | [], l, s2, hz => ⟨s2, by simp only [List.map_nil, forL]; rfl⟩
  | c :: cs, l, s2, hz => by
    simp only [List.length_cons] at hz
    have hi := insP_len l c
    obtain ⟨s2', h⟩ := note_loop hlt c0 cs (insP l c) (.im (pD c)) (by omega)
    refine ⟨s2', ?_⟩
    have hb : bindT false [2] (pD c) [.im c0, .ow (cD l), s2] = some [.im c0, .ow (cD l), .im (pD c)] := by simp [bindT]
    simp only [List.map_cons, forL, hb]
    have hs := setx_c (C := C) (δ := [.im c0, .ow (cD l), .im (pD c)]) (i := 1) (k := .var 2) (m := .cst (.bl true)) (p := c) (l := l) (by simp only [evE]) (by simp [evE]) rfl (by omega)
    have hs2 : evS C noteB [.im c0, .ow (cD l), .im (pD c)] = .nx [.im c0, .ow (cD (insP l c)), .im (pD c)] := by
      unfold noteB
      rw [evS, hs]
      simp [evS]
    rw [hs2]
    exact h
theorem noted_ev {k : Nat} (cs : List P) (hz : cs.length < 1000000) : CD (k + 1) 2 [.im (.tup (cs.map pD))] = .ret (.fr (cD (ntP [] cs))) .non := by
  unfold CD
  rw [callD_at fs_noted rfl rfl]
  show endF false (evS ⟨CD k, false, 1000000000, glob⟩ b_noted [.im (.tup (cs.map pD)), .no, .no]) = _
  have hs : sizeLine = 16777216 := sizeLine_eq
  obtain ⟨s2', h⟩ := note_loop (C := ⟨CD k, false, 1000000000, glob⟩) rfl (.tup (cs.map pD)) cs [] .no (by simp only [List.length_nil]; omega)
  have e : (.dic [] [] : D) = cD [] := rfl
  have e0 : b_noted = .seq (.asg 1 .dic0) (.seq (.loop .each (.cons (.var 0) .nil) [2] noteB) (.seq (.ret (.var 1)) .skip)) := rfl
  rw [e0]
  simp [evS, evE, evL, Oc.bind, Oc.toFl, look, looks, froz, srcD, lends, stor, e, h]
  simp [endF]
/-- one turn of regions -/
def regB : MS := .seq (.iff (.cmp .inn (.var 4) (.var 2)) (.seq (.app 3 (.blt .tuple (.cons (.blt .sorted (.cons (.callW 1 2 (.cons (.var 4) (.cons (.var 1) .nil))) .nil)) .nil))) .skip) .skip) .skip
theorem reg_loop {k : Nat} (c0 : D) (ss : List P) : ∀ (cs S : List P) (acc : List D) (s4 : Sl), S.Nodup → S.length < 1000000 → acc.length + cs.length < sizeLine →
    ∃ S' s4', forL false [4] (evS ⟨CD (k + 1), false, 1000000000, glob⟩ regB) (cs.map pD) [.im c0, .im (.tup (ss.map pD)), .ow (cD S), .ow (.lst acc), s4] = .nx [.im c0, .im (.tup (ss.map pD)), .ow (cD S'), .ow (.lst (acc ++ (prts ss 1000000000 cs S).map sD)), s4']
  | [], S, acc, s4, hn, hS, hz => ⟨S, s4, by simp [forL, prts]⟩
  | c :: cs, S, acc, s4, hn, hS, hz => by
    simp only [List.length_cons] at hz
    have hb : bindT false [4] (pD c) [.im c0, .im (.tup (ss.map pD)), .ow (cD S), .ow (.lst acc), s4] = some [.im c0, .im (.tup (ss.map pD)), .ow (cD S), .ow (.lst acc), .im (pD c)] := by simp [bindT]
    simp only [List.map_cons, forL, hb]
    by_cases hm : c ∈ S
    · have hf := flooded_ev (k := k) (ss := ss) hm hS
      have hlen : acc.length < sizeLine := by omega
      have hbody : evS ⟨CD (k + 1), false, 1000000000, glob⟩ regB [.im c0, .im (.tup (ss.map pD)), .ow (cD S), .ow (.lst acc), .im (pD c)] =
          .nx [.im c0, .im (.tup (ss.map pD)), .ow (cD (flo ss 1000000000 (S.erase c) [c] 0).1), .ow (.lst (acc ++ [sD (flo ss 1000000000 (S.erase c) [c] 0).2])), .im (pD c)] := by
        simp [regB, evS, evE, evL, ev2, Oc.bind, Oc.toFl, Rv.seen, look, looks, lends, froz, k2, evC_in, hm, hf, sorted_pD]
        simp [evB1, f_tuple, froz, hlen, sD]
      rw [hbody]
      obtain ⟨q1, _⟩ := flo_part (steps := ss) hn hm (n := 1000000000) (by omega)
      have q2 := (List.nodup_append.mp (q1.nodup_iff.mpr hn)).2.1
      have q3 := q1.length_eq
      rw [List.length_append] at q3
      obtain ⟨S', s4', h⟩ := reg_loop c0 ss cs (flo ss 1000000000 (S.erase c) [c] 0).1 (acc ++ [sD (flo ss 1000000000 (S.erase c) [c] 0).2]) (.im (pD c)) q2 (by omega) (by simp only [List.length_append, List.length_cons, List.length_nil]; omega)
      refine ⟨S', s4', ?_⟩
      have e : prts ss 1000000000 (c :: cs) S = (flo ss 1000000000 (S.erase c) [c] 0).2 :: prts ss 1000000000 cs (flo ss 1000000000 (S.erase c) [c] 0).1 := by
        conv => lhs; unfold prts
        rw [if_pos hm]
      rw [e, List.map_cons]
      have e2 : acc ++ sD (flo ss 1000000000 (S.erase c) [c] 0).2 :: (prts ss 1000000000 cs (flo ss 1000000000 (S.erase c) [c] 0).1).map sD = acc ++ [sD (flo ss 1000000000 (S.erase c) [c] 0).2] ++ (prts ss 1000000000 cs (flo ss 1000000000 (S.erase c) [c] 0).1).map sD := by simp
      rw [e2]
      exact h
    · have hbody : evS ⟨CD (k + 1), false, 1000000000, glob⟩ regB [.im c0, .im (.tup (ss.map pD)), .ow (cD S), .ow (.lst acc), .im (pD c)] = .nx [.im c0, .im (.tup (ss.map pD)), .ow (cD S), .ow (.lst acc), .im (pD c)] := by
        simp [regB, evS, evE, ev2, Oc.bind, Oc.toFl, Rv.seen, look, k2, evC_in, hm]
      rw [hbody]
      have e : prts ss 1000000000 (c :: cs) S = prts ss 1000000000 cs S := by
        conv => lhs; unfold prts
        rw [if_neg hm]
      rw [e]
      exact reg_loop c0 ss cs S acc (.im (pD c)) hn hS (by omega)
theorem regions_ev {k : Nat} (cs ss : List P) (hz : cs.length < 1000000) : CD (k + 2) 3 [.im (.tup (cs.map pD)), .im (.tup (ss.map pD))] = .ret (.fr (.lst ((prts ss 1000000000 cs (ntP [] cs)).map sD))) .non := by
  unfold CD
  rw [callD_at fs_regions rfl rfl]
  show endF false (evS ⟨CD (k + 1), false, 1000000000, glob⟩ b_regions [.im (.tup (cs.map pD)), .im (.tup (ss.map pD)), .no, .no, .no]) = _
  have hs : sizeLine = 16777216 := sizeLine_eq
  have hl := ntP_len cs []
  simp only [List.length_nil] at hl
  obtain ⟨S', s4', h⟩ := reg_loop (k := k) (.tup (cs.map pD)) ss cs (ntP [] cs) [] .no (ntP_nd cs [] .nil) (by omega) (by simp only [List.length_nil]; omega)
  have hn := noted_ev (k := k) cs hz
  have e0 : b_regions = .seq (.asg 2 (.call 2 (.cons (.var 0) .nil))) (.seq (.asg 3 (.lst .nil)) (.seq (.loop .each (.cons (.var 0) .nil) [4] regB) (.seq (.ret (.var 3)) .skip))) := rfl
  rw [e0]
  simp [evS, evE, evL, Oc.bind, Oc.toFl, look, looks, froz, srcD, lends, stor, ims, hn, h]
  simp [endF]
def ss8 : List P := [(-1, -1), (-1, 0), (-1, 1), (0, -1), (0, 1), (1, -1), (1, 0), (1, 1)]
theorem glob0 : glob 0 = .tup (ss8.map pD) := rfl
theorem kIx_sh (cs : List P) (δ : Ds) : kIx (.im (shD cs)) (.im (.int 0)) δ = .ok (.im (.tup (cs.map pD))) δ := rfl
theorem parts_ev {k : Nat} (cs : List P) (hz : cs.length < 1000000) : CD (k + 3) 4 [.im (shD cs)] = .ret (.fr (.lst ((prts ss8 1000000000 cs (ntP [] cs)).map sD))) .non := by
  unfold CD
  rw [callD_at fs_parts rfl rfl]
  show endF false (evS ⟨CD (k + 2), false, 1000000000, glob⟩ b_parts [.im (shD cs)]) = _
  have h1 := look_ev (k := k + 1) cs
  have h2 := regions_ev (k := k) cs ss8 hz
  simp [b_parts, evS, evE, evL, ev2, Oc.bind, Oc.toFl, Rv.seen, look, looks, froz, lends, h1, h2, kIx_sh, glob0]
  simp [endF]
theorem part_of_ev {k : Nat} (cs : List P) (hz : cs.length < 1000000) {a : P} (ha : a ∈ ntP [] cs) : CD (k + 2) 5 [.im (shD cs), .im (pD a)] = .ret (.im (sD (flo ss8 1000000000 ((ntP [] cs).erase a) [a] 0).2)) .non := by
  unfold CD
  rw [callD_at fs_part_of rfl rfl]
  show endF false (evS ⟨CD (k + 1), false, 1000000000, glob⟩ b_part_of [.im (shD cs), .im (pD a), .no]) = _
  have hl := ntP_len cs []
  simp only [List.length_nil] at hl
  have h1 := look_ev (k := k) cs
  have h2 := noted_ev (k := k) cs hz
  have h3 := flooded_ev (k := k) (ss := ss8) ha (by omega)
  have hni : evC .notin (pD a) (cD (ntP [] cs)) = some (.bl false) := by
    simp only [evC, cD, kSort_cD, dlook_cD, if_true, ha]
    rfl
  simp [b_part_of, evS, evE, evL, ev2, Oc.bind, Oc.toFl, Rv.seen, look, looks, froz, lends, k2, h1, h2, h3, kIx_sh, glob0, stor, hni, sorted_pD]
  simp [evB1, f_tuple, endF, sD]
end K68

set_option Elab.async false
set_option linter.all false
set_option maxRecDepth 100000
set_option maxHeartbeats 4000000
/-! the law's own parts: _law_fallen -/
namespace Fl8
def s9 : List P := [(-1, -1), (-1, 0), (-1, 1), (0, -1), (0, 0), (0, 1), (1, -1), (1, 0), (1, 1)]
def s8 : List P := [(-1, -1), (-1, 0), (-1, 1), (0, -1), (0, 1), (1, -1), (1, 0), (1, 1)]
theorem try1_zero {c : P} {st : List P × List P} (h : c ∉ st.1) : try1 c st (0, 0) = st := by
  unfold try1
  rw [if_neg]
  have : addP c (0, 0) = c := by unfold addP; simp
  rw [this]; exact h
theorem turn_app (A B : List P) (c : P) (st : List P × List P) : turnP (A ++ B) c st = turnP B c (turnP A c st) := by
  unfold turnP
  rw [List.foldl_append]
theorem turn_mid (A B : List P) {c : P} {st : List P × List P} (h : c ∉ st.1) : turnP (A ++ (0, 0) :: B) c st = turnP (A ++ B) c st := by
  rw [turn_app, turn_app]
  have h4 : c ∉ (turnP A c st).1 := fun z => h (turn_sub c A st c z)
  generalize turnP A c st = z at h4
  show turnP B c (try1 c z (0, 0)) = _
  rw [try1_zero h4]
theorem turn_9 {c : P} {st : List P × List P} (h : c ∉ st.1) : turnP s9 c st = turnP s8 c st :=
  turn_mid [(-1, -1), (-1, 0), (-1, 1), (0, -1)] [(0, 1), (1, -1), (1, 0), (1, 1)] h
theorem Tn.nin {S : List P} {st : List P × List P} (h : Tn S st) {c : P} (hc : c ∈ st.2) : c ∉ st.1 := by
  have := h.perm.nodup_iff.mpr h.nd
  exact fun z => (List.nodup_append.mp this).2.2 c hc c z rfl
theorem flo_9 {S : List P} : ∀ (n : Nat) (st : List P × List P) (i : Nat), Tn S st → flo s9 n st.1 st.2 i = flo s8 n st.1 st.2 i
  | 0, st, i, h => rfl
  | n + 1, st, i, h => by
    unfold flo
    cases e : st.2[i]? with
    | none => rfl
    | some c =>
      have hc : c ∈ st.2 := List.mem_of_getElem? e
      simp only
      rw [turn_9 (st := (st.1, st.2)) (h.nin hc)]
      exact flo_9 n (turnP s8 c st) (i + 1) (h.turn c)
theorem flo_9' {S : List P} (hn : S.Nodup) {a : P} (ha : a ∈ S) (n : Nat) : flo s9 n (S.erase a) [a] 0 = flo s8 n (S.erase a) [a] 0 := flo_9 n (S.erase a, [a]) 0 ⟨(List.perm_cons_erase ha).symm, hn⟩
theorem flo_nd {steps S : List P} (hn : S.Nodup) {a : P} (ha : a ∈ S) (n : Nat) : ((flo steps n (S.erase a) [a] 0).2 ++ (flo steps n (S.erase a) [a] 0).1).Perm S := by
  have T : Tn S (S.erase a, [a]) := ⟨(List.perm_cons_erase ha).symm, hn⟩
  have : ∀ (n : Nat) (st : List P × List P) (i : Nat), Tn S st → Tn S (flo steps n st.1 st.2 i) := by
    intro n
    induction n with
    | zero => intro st i h; exact h
    | succ n ih =>
      intro st i h
      unfold flo
      cases e : st.2[i]? with
      | none => exact h
      | some c => exact ih (turnP steps c st) (i + 1) (h.turn c)
  exact (this n _ 0 T).perm
end Fl8
namespace K68
open PySem PySem.Spec PyProof.Rows L2 EL Fl8
theorem fs_fallen : text.fs 11 = ⟨2, 10, b__law_fallen⟩ := by
  show (⟨d__law_fallen.np, _, _⟩ : Fn) = _
  rw [show d__law_fallen.np = 2 from by decide +kernel]
  rfl
def m3 : ME := .tup (.cons (.neg (.cst (.int 1))) (.cons (.cst (.int 0)) (.cons (.cst (.int 1)) .nil)))
def nearB : MS := .seq (.asg 9 (.tup (.cons (.bin .add (.ix (.ix (.var 5) (.var 6)) (.cst (.int 0))) (.var 7)) (.cons (.bin .add (.ix (.ix (.var 5) (.var 6)) (.cst (.int 1))) (.var 8)) .nil)))) (.seq (.iff (.and (.cmp .inn (.var 9) (.var 2)) (.not (.and (.var 1) (.cmp .ne (.bin .mul (.var 7) (.var 8)) (.cst (.int 0)))))) (.seq (.expr (.popi 2 (.var 9))) (.seq (.app 5 (.var 9)) .skip)) .skip) .skip)
def rowB : MS := .seq (.loop .each (.cons m3 .nil) [8] nearB) .skip
def fwC : ME := .cmp .lt (.var 6) (.blt .len (.rd 5 .nil))
def fwB : MS := .seq (.loop .each (.cons m3 .nil) [7] rowB) (.seq (.asg 6 (.bin .add (.var 6) (.cst (.int 1)))) .skip)
def celB : MS := .seq (.iff (.cmp .inn (.var 3) (.var 2)) (.seq (.asg 5 (.lst (.cons (.var 3) .nil))) (.seq (.expr (.popi 2 (.var 3))) (.seq (.asg 6 (.cst (.int 0))) (.seq (.whl fwC fwB) (.seq (.app 4 (.blt .tuple (.cons (.blt .sorted (.rd 5 .nil)) .nil))) .skip))))) .skip) .skip
def fnoteB : MS := .seq (.setx 2 (.var 3) (.cst (.bl true))) .skip
theorem b_fallen_eq : b__law_fallen = .seq (.asg 2 .dic0) (.seq (.loop .each (.cons (.var 0) .nil) [3] fnoteB) (.seq (.asg 4 (.lst .nil)) (.seq (.loop .each (.cons (.blt .sorted (.rd 0 .nil)) .nil) [3] celB) (.seq (.ret (.var 4)) .skip)))) := rfl
/-- the frame of _law_fallen -/
abbrev fr (c0 : D) (L : List P) (s3 : Sl) (acc : List D) (F : List P) (i : Nat) (s7 s8 s9 : Sl) : Ds :=
  [.im c0, .im (.bl false), .ow (cD L), s3, .ow (.lst acc), .ow (.lst (F.map pD)), .im (.int (i : Int)), s7, s8, s9]
theorem near_ev {C : Cn} (hlt : C.lt = false) (c0 : D) (left found : List P) (s3 : Sl) (acc : List D) (i : Nat) (r q : Int) (c : P) (hc : found[i]? = some c) (x9 : Sl) (hz : left.length + found.length < sizeLine) :
    evS C nearB (fr c0 left s3 acc found i (.im (.int r)) (.im (.int q)) x9) =
    .nx (fr c0 (try1 c (left, found) (r, q)).1 s3 acc (try1 c (left, found) (r, q)).2 i (.im (.int r)) (.im (.int q)) (.im (pD (addP c (r, q))))) := by
  have hat : atI (found.map pD) (i : Int) = some (pD c) := atN (by rw [List.getElem?_map, hc]; rfl)
  have e2 : (.tup [.int (c.1 + r), .int (c.2 + q)] : D) = pD (addP c (r, q)) := rfl
  have hsz : (2 : Nat) ≤ sizeLine := by rw [sizeLine_eq]; decide
  have ht : (tkey (pD (addP c (r, q)))).isSome = true := by rw [tkey_pD]; rfl
  by_cases hm : addP c (r, q) ∈ left
  · have et : try1 c (left, found) (r, q) = (left.erase (addP c (r, q)), found ++ [addP c (r, q)]) := by
      unfold try1; rw [if_pos hm]
    rw [et]
    have hlen : left.length ≤ sizeLine := by omega
    have hlen2 : found.length < sizeLine := by omega
    have hl := dlook_cD (addP c (r, q)) left
    rw [if_pos hm] at hl
    simp [nearB, fr, evS, evE, evL, ev2, ev1, Oc.bind, Oc.toFl, Rv.seen, look, kIx_p0, kIx_p1, kIx_l, kBin, kAdd_i, k2, hat, ims, froz, stor, hlt, hsz, e2, evC_in, hm, bB]
    simp [cD, kSort_cD, ht, hlen, hlen2, hl, ddel_cD]
  · have et : try1 c (left, found) (r, q) = (left, found) := by
      unfold try1; rw [if_neg hm]
    rw [et]
    simp [nearB, fr, evS, evE, evL, ev2, ev1, Oc.bind, Oc.toFl, Rv.seen, look, kIx_p0, kIx_p1, kIx_l, kBin, kAdd_i, k2, hat, ims, froz, stor, hlt, hsz, e2, evC_in, hm, bB]
end K68

set_option Elab.async false
set_option linter.all false
set_option maxRecDepth 100000
set_option maxHeartbeats 4000000
namespace K68
open PySem PySem.Spec PyProof.Rows L2 EL Fl8
theorem m3_ev {C : Cn} (δ : Ds) : evE C m3 δ = .ok (.im (.tup [.int (-1), .int 0, .int 1])) δ := by
  have hs : (3 : Nat) ≤ sizeLine := by rw [sizeLine_eq]; decide
  simp [m3, evE, evL, ev1, Oc.bind, Rv.seen, look, froz, ims, hs, bI, k1, dNeg]
theorem col_loop {C : Cn} (hlt : C.lt = false) (c0 : D) (s3 : Sl) (acc : List D) (i : Nat) (r : Int) (c : P) : ∀ (qs : List Int) (left found : List P) (x8 x9 : Sl), found[i]? = some c → left.length + found.length < sizeLine →
    ∃ x8' x9', forL false [8] (evS C nearB) (qs.map D.int) (fr c0 left s3 acc found i (.im (.int r)) x8 x9) =
      .nx (fr c0 (turnP (qs.map fun q => (r, q)) c (left, found)).1 s3 acc (turnP (qs.map fun q => (r, q)) c (left, found)).2 i (.im (.int r)) x8' x9')
  | [], left, found, x8, x9, hc, hz => ⟨x8, x9, by simp only [List.map_nil, forL]; rfl⟩
  | q :: qs, left, found, x8, x9, hc, hz => by
    have h1 := near_ev (C := C) hlt c0 left found s3 acc i r q c hc x9 hz
    obtain ⟨l, e, _⟩ := try1_pre c (r, q) (left, found)
    have hc' : (try1 c (left, found) (r, q)).2[i]? = some c := by
      rw [e, List.getElem?_append_left (List.getElem?_eq_some_iff.mp hc).1]
      exact hc
    have hl := try1_len c (r, q) (left, found)
    obtain ⟨x8', x9', h2⟩ := col_loop hlt c0 s3 acc i r c qs (try1 c (left, found) (r, q)).1 (try1 c (left, found) (r, q)).2 (.im (.int q)) (.im (pD (addP c (r, q)))) hc' (by rw [hl]; exact hz)
    refine ⟨x8', x9', ?_⟩
    have hb : bindT false [8] (.int q) (fr c0 left s3 acc found i (.im (.int r)) x8 x9) = some (fr c0 left s3 acc found i (.im (.int r)) (.im (.int q)) x9) := by
      simp [bindT, fr]
    simp only [List.map_cons, forL, hb]
    rw [h1]
    exact h2
theorem row_ev {C : Cn} (hlt : C.lt = false) (c0 : D) (s3 : Sl) (acc : List D) (i : Nat) (r : Int) (c : P) (left found : List P) (x8 x9 : Sl) (hc : found[i]? = some c) (hz : left.length + found.length < sizeLine) :
    ∃ x8' x9', evS C rowB (fr c0 left s3 acc found i (.im (.int r)) x8 x9) =
      .nx (fr c0 (turnP [(r, -1), (r, 0), (r, 1)] c (left, found)).1 s3 acc (turnP [(r, -1), (r, 0), (r, 1)] c (left, found)).2 i (.im (.int r)) x8' x9') := by
  obtain ⟨x8', x9', h⟩ := col_loop hlt c0 s3 acc i r c [-1, 0, 1] left found x8 x9 hc hz
  refine ⟨x8', x9', ?_⟩
  have h : forL false [8] (evS C nearB) [.int (-1), .int 0, .int 1] (fr c0 left s3 acc found i (.im (.int r)) x8 x9) = .nx (fr c0 (turnP [(r, -1), (r, 0), (r, 1)] c (left, found)).1 s3 acc (turnP [(r, -1), (r, 0), (r, 1)] c (left, found)).2 i (.im (.int r)) x8' x9') := h
  simp [rowB, evS, evL, Oc.bind, Oc.toFl, m3_ev, looks, look, lends, froz, srcD, hlt, h, evE]
theorem rows_loop {C : Cn} (hlt : C.lt = false) (c0 : D) (s3 : Sl) (acc : List D) (i : Nat) (c : P) : ∀ (rs : List Int) (left found : List P) (x7 x8 x9 : Sl), found[i]? = some c → left.length + found.length < sizeLine →
    ∃ x7' x8' x9', forL false [7] (evS C rowB) (rs.map D.int) (fr c0 left s3 acc found i x7 x8 x9) =
      .nx (fr c0 (turnP (rs.flatMap fun r => [(r, -1), (r, 0), (r, 1)]) c (left, found)).1 s3 acc (turnP (rs.flatMap fun r => [(r, -1), (r, 0), (r, 1)]) c (left, found)).2 i x7' x8' x9')
  | [], left, found, x7, x8, x9, hc, hz => ⟨x7, x8, x9, by simp only [List.map_nil, forL]; rfl⟩
  | r :: rs, left, found, x7, x8, x9, hc, hz => by
    obtain ⟨y8, y9, h1⟩ := row_ev (C := C) hlt c0 s3 acc i r c left found x8 x9 hc hz
    obtain ⟨l, e, _⟩ := turn_pre c [(r, -1), (r, 0), (r, 1)] (left, found)
    have hc' : (turnP [(r, -1), (r, 0), (r, 1)] c (left, found)).2[i]? = some c := by
      rw [e, List.getElem?_append_left (List.getElem?_eq_some_iff.mp hc).1]
      exact hc
    have hl := turn_len c [(r, -1), (r, 0), (r, 1)] (left, found)
    obtain ⟨x7', x8', x9', h2⟩ := rows_loop hlt c0 s3 acc i c rs (turnP [(r, -1), (r, 0), (r, 1)] c (left, found)).1 (turnP [(r, -1), (r, 0), (r, 1)] c (left, found)).2 (.im (.int r)) y8 y9 hc' (by rw [hl]; exact hz)
    refine ⟨x7', x8', x9', ?_⟩
    have hb : bindT false [7] (.int r) (fr c0 left s3 acc found i x7 x8 x9) = some (fr c0 left s3 acc found i (.im (.int r)) x8 x9) := by
      simp [bindT, fr]
    simp only [List.map_cons, forL, hb]
    rw [h1]
    have e3 : turnP ((r :: rs).flatMap fun r => [(r, -1), (r, 0), (r, 1)]) c (left, found) = turnP (rs.flatMap fun r => [(r, -1), (r, 0), (r, 1)]) c (turnP [(r, -1), (r, 0), (r, 1)] c (left, found)) := by
      rw [List.flatMap_cons, turn_app]
    rw [e3]
    exact h2
theorem s9_eq : ([-1, 0, 1] : List Int).flatMap (fun r => [(r, (-1 : Int)), (r, 0), (r, 1)]) = s9 := rfl
theorem fwl_ev {C : Cn} (hlt : C.lt = false) (c0 : D) (s3 : Sl) (acc : List D) : ∀ (n : Nat) (left found : List P) (i : Nat) (x7 x8 x9 : Sl), left.length + found.length < sizeLine → i ≤ found.length → left.length + found.length - i < n →
    ∃ i' x7' x8' x9', whlL (evE C fwC) (evS C fwB) n (fr c0 left s3 acc found i x7 x8 x9) =
      .nx (fr c0 (flo s9 n left found i).1 s3 acc (flo s9 n left found i).2 i' x7' x8' x9')
  | 0, left, found, i, x7, x8, x9, hz, hi, hn => by omega
  | n + 1, left, found, i, x7, x8, x9, hz, hi, hn => by
    have hcond : evE C fwC (fr c0 left s3 acc found i x7 x8 x9) = .ok (bB (decide ((i : Int) < (found.length : Int)))) (fr c0 left s3 acc found i x7 x8 x9) := by
      simp [fwC, fr, evE, evL, ev2, Oc.bind, Rv.seen, look, looks, evB1, f_len, bI, k2, evC_lt_i, bB]
    cases hf : found[i]? with
    | none =>
      have hlen := List.getElem?_eq_none_iff.mp hf
      have : decide ((i : Int) < (found.length : Int)) = false := decide_eq_false (by omega)
      rw [this] at hcond
      rw [whl_false hcond]
      have e : flo s9 (n + 1) left found i = (left, found) := by
        unfold flo
        rw [hf]
      rw [e]
      exact ⟨_, _, _, _, rfl⟩
    | some c =>
      have hlen := (List.getElem?_eq_some_iff.mp hf).1
      have : decide ((i : Int) < (found.length : Int)) = true := decide_eq_true (by omega)
      rw [this] at hcond
      obtain ⟨y7, y8, y9, h2⟩ := rows_loop hlt c0 s3 acc i c [-1, 0, 1] left found x7 x8 x9 hf hz
      rw [s9_eq] at h2
      have h2 : forL false [7] (evS C rowB) [.int (-1), .int 0, .int 1] (fr c0 left s3 acc found i x7 x8 x9) = .nx (fr c0 (turnP s9 c (left, found)).1 s3 acc (turnP s9 c (left, found)).2 i y7 y8 y9) := h2
      have hbody : evS C fwB (fr c0 left s3 acc found i x7 x8 x9) =
          .nx (fr c0 (turnP s9 c (left, found)).1 s3 acc (turnP s9 c (left, found)).2 (i + 1) y7 y8 y9) := by
        simp [fwB, evS, evE, evL, ev2, Oc.bind, Oc.toFl, m3_ev, look, looks, froz, srcD, lends, hlt, h2, kBin, kAdd_i, Rv.seen, stor]
      rw [whl_true hcond hbody]
      have hl := turn_len c s9 (left, found)
      simp only at hl
      obtain ⟨l, e, _⟩ := turn_pre c s9 (left, found)
      obtain ⟨i', x7', x8', x9', h3⟩ := fwl_ev hlt c0 s3 acc n (turnP s9 c (left, found)).1 (turnP s9 c (left, found)).2 (i + 1) y7 y8 y9 (by omega) (by rw [e, List.length_append]; simp only; omega) (by omega)
      have e2 : flo s9 (n + 1) left found i = flo s9 n (turnP s9 c (left, found)).1 (turnP s9 c (left, found)).2 (i + 1) := by
        conv => lhs; unfold flo
        rw [hf]
      rw [e2]
      exact ⟨i', x7', x8', x9', h3⟩
theorem cel_loop {C : Cn} (hlt : C.lt = false) (hfu : C.fuel = 1000000000) (c0 : D) : ∀ (cs S : List P) (acc : List D) (s3 s5 s6 s7 s8 s9 : Sl), S.Nodup → S.length < 1000000 → acc.length + cs.length < sizeLine →
    ∃ S' s3' s5' s6' s7' s8' s9', forL false [3] (evS C celB) (cs.map pD) [.im c0, .im (.bl false), .ow (cD S), s3, .ow (.lst acc), s5, s6, s7, s8, s9] =
      .nx [.im c0, .im (.bl false), .ow (cD S'), s3', .ow (.lst (acc ++ (prts ss8 1000000000 cs S).map sD)), s5', s6', s7', s8', s9']
  | [], S, acc, s3, s5, s6, s7, s8, s9, hn, hS, hz => ⟨S, s3, s5, s6, s7, s8, s9, by simp [forL, prts]⟩
  | c :: cs, S, acc, s3, s5, s6, s7, s8, s9, hn, hS, hz => by
    simp only [List.length_cons] at hz
    have hb : bindT false [3] (pD c) [.im c0, .im (.bl false), .ow (cD S), s3, .ow (.lst acc), s5, s6, s7, s8, s9] = some [.im c0, .im (.bl false), .ow (cD S), .im (pD c), .ow (.lst acc), s5, s6, s7, s8, s9] := by simp [bindT]
    simp only [List.map_cons, forL, hb]
    have hs : sizeLine = 16777216 := sizeLine_eq
    by_cases hm : c ∈ S
    · have hl := List.length_erase_of_mem hm
      have hpos : 0 < S.length := List.length_pos_of_mem hm
      obtain ⟨i', y7, y8, y9, hw⟩ := fwl_ev (C := C) hlt c0 (.im (pD c)) acc 1000000000 (S.erase c) [c] 0 s7 s8 s9 (by simp only [List.length_cons, List.length_nil]; omega) (by simp) (by simp only [List.length_cons, List.length_nil]; omega)
      rw [flo_9' hn hm] at hw
      have e8 : Fl8.s8 = ss8 := rfl
      rw [e8] at hw
      have hw : whlL (evE C fwC) (evS C fwB) 1000000000 [.im c0, .im (.bl false), .ow (cD (S.erase c)), .im (pD c), .ow (.lst acc), .ow (.lst [pD c]), .im (.int 0), s7, s8, s9] = _ := hw
      have hlk := dlook_cD c S
      rw [if_pos hm] at hlk
      have ht : (tkey (pD c)).isSome = true := by rw [tkey_pD]; rfl
      have hSz : S.length ≤ sizeLine := by omega
      have h1 : (1 : Nat) ≤ sizeLine := by omega
      have hlen : acc.length < sizeLine := by omega
      have e3 : cD S = .dic (S.map pD) (S.map tD) := rfl
      have e4 : (.dic ((S.erase c).map pD) ((S.erase c).map tD) : D) = cD (S.erase c) := rfl
      have hin := evC_in (l := S) (x := c)
      rw [decide_eq_true hm] at hin
      have hbody : evS C celB [.im c0, .im (.bl false), .ow (cD S), .im (pD c), .ow (.lst acc), s5, s6, s7, s8, s9] =
          .nx (fr c0 (flo ss8 1000000000 (S.erase c) [c] 0).1 (.im (pD c)) (acc ++ [sD (flo ss8 1000000000 (S.erase c) [c] 0).2]) (flo ss8 1000000000 (S.erase c) [c] 0).2 i' y7 y8 y9) := by
        rw [e3] at hin
        simp [celB, evS, evE, evL, ev2, Oc.bind, Oc.toFl, Rv.seen, look, looks, lends, froz, ims, stor, k2, e3, hin, h1, kSort_cD, ht, hSz, hlk, ddel_cD]
        simp only [e4, hfu, hw, fr]
        simp [evS, evE, evL, Oc.bind, Oc.toFl, look, looks, lends, froz, sorted_pD]
        simp [evB1, f_tuple, froz, hlen, sD]
      rw [hbody]
      obtain q1 := flo_nd (steps := ss8) hn hm 1000000000
      have q2 := (List.nodup_append.mp (q1.nodup_iff.mpr hn)).2.1
      have q3 := q1.length_eq
      rw [List.length_append] at q3
      obtain ⟨S', s3', s5', s6', s7', s8', s9', h⟩ := cel_loop hlt hfu c0 cs (flo ss8 1000000000 (S.erase c) [c] 0).1 (acc ++ [sD (flo ss8 1000000000 (S.erase c) [c] 0).2]) (.im (pD c)) (.ow (.lst ((flo ss8 1000000000 (S.erase c) [c] 0).2.map pD))) (.im (.int (i' : Int))) y7 y8 y9 q2 (by omega) (by simp only [List.length_append, List.length_cons, List.length_nil]; omega)
      refine ⟨S', s3', s5', s6', s7', s8', s9', ?_⟩
      have e : prts ss8 1000000000 (c :: cs) S = (flo ss8 1000000000 (S.erase c) [c] 0).2 :: prts ss8 1000000000 cs (flo ss8 1000000000 (S.erase c) [c] 0).1 := by
        conv => lhs; unfold prts
        rw [if_pos hm]
      rw [e, List.map_cons]
      have e2 : acc ++ sD (flo ss8 1000000000 (S.erase c) [c] 0).2 :: (prts ss8 1000000000 cs (flo ss8 1000000000 (S.erase c) [c] 0).1).map sD = acc ++ [sD (flo ss8 1000000000 (S.erase c) [c] 0).2] ++ (prts ss8 1000000000 cs (flo ss8 1000000000 (S.erase c) [c] 0).1).map sD := by simp
      rw [e2]
      exact h
    · have hbody : evS C celB [.im c0, .im (.bl false), .ow (cD S), .im (pD c), .ow (.lst acc), s5, s6, s7, s8, s9] = .nx [.im c0, .im (.bl false), .ow (cD S), .im (pD c), .ow (.lst acc), s5, s6, s7, s8, s9] := by
        simp [celB, evS, evE, ev2, Oc.bind, Oc.toFl, Rv.seen, look, k2, evC_in, hm]
      rw [hbody]
      have e : prts ss8 1000000000 (c :: cs) S = prts ss8 1000000000 cs S := by
        conv => lhs; unfold prts
        rw [if_neg hm]
      rw [e]
      exact cel_loop hlt hfu c0 cs S acc (.im (pD c)) s5 s6 s7 s8 s9 hn hS (by omega)
theorem fnote_loop {C : Cn} (hlt : C.lt = false) (c0 c1 : D) : ∀ (cs l : List P) (s3 s4 s5 s6 s7 s8 s9 : Sl), l.length + cs.length < sizeLine →
    ∃ s3', forL false [3] (evS C fnoteB) (cs.map pD) [.im c0, .im c1, .ow (cD l), s3, s4, s5, s6, s7, s8, s9] = .nx [.im c0, .im c1, .ow (cD (ntP l cs)), s3', s4, s5, s6, s7, s8, s9]
  | [], l, s3, s4, s5, s6, s7, s8, s9, hz => ⟨s3, by simp only [List.map_nil, forL]; rfl⟩
  | c :: cs, l, s3, s4, s5, s6, s7, s8, s9, hz => by
    simp only [List.length_cons] at hz
    have hi := insP_len l c
    obtain ⟨s3', h⟩ := fnote_loop hlt c0 c1 cs (insP l c) (.im (pD c)) s4 s5 s6 s7 s8 s9 (by omega)
    refine ⟨s3', ?_⟩
    have hb : bindT false [3] (pD c) [.im c0, .im c1, .ow (cD l), s3, s4, s5, s6, s7, s8, s9] = some [.im c0, .im c1, .ow (cD l), .im (pD c), s4, s5, s6, s7, s8, s9] := by simp [bindT]
    simp only [List.map_cons, forL, hb]
    have hs := setx_c (C := C) (δ := [.im c0, .im c1, .ow (cD l), .im (pD c), s4, s5, s6, s7, s8, s9]) (i := 2) (k := .var 3) (m := .cst (.bl true)) (p := c) (l := l) (by simp only [evE]) (by simp [evE]) rfl (by omega)
    have hs2 : evS C fnoteB [.im c0, .im c1, .ow (cD l), .im (pD c), s4, s5, s6, s7, s8, s9] = .nx [.im c0, .im c1, .ow (cD (insP l c)), .im (pD c), s4, s5, s6, s7, s8, s9] := by
      unfold fnoteB
      rw [evS, hs]
      simp [evS]
    rw [hs2]
    exact h
theorem fallen_ev {k : Nat} (cs : List P) (hz : cs.length < 1000000) (hso : dsort (cs.map pD) = cs.map pD) : CD (k + 1) 11 [.im (.tup (cs.map pD)), .im (.bl false)] = .ret (.fr (.lst ((prts ss8 1000000000 cs (ntP [] cs)).map sD))) .non := by
  unfold CD
  rw [callD_at fs_fallen rfl rfl]
  show endF false (evS ⟨CD k, false, 1000000000, glob⟩ b__law_fallen [.im (.tup (cs.map pD)), .im (.bl false), .no, .no, .no, .no, .no, .no, .no, .no]) = _
  have hs : sizeLine = 16777216 := sizeLine_eq
  obtain ⟨s3', h1⟩ := fnote_loop (C := ⟨CD k, false, 1000000000, glob⟩) rfl (.tup (cs.map pD)) (.bl false) cs [] .no .no .no .no .no .no .no (by simp only [List.length_nil]; omega)
  have hl := ntP_len cs []
  simp only [List.length_nil] at hl
  obtain ⟨S', t3, t5, t6, t7, t8, t9, h2⟩ := cel_loop (C := ⟨CD k, false, 1000000000, glob⟩) rfl rfl (.tup (cs.map pD)) cs (ntP [] cs) [] s3' .no .no .no .no .no (ntP_nd cs [] .nil) (by omega) (by simp only [List.length_nil]; omega)
  have e : (.dic [] [] : D) = cD [] := rfl
  have hso2 : evB1 .sorted [.tup (cs.map pD)] = some (.fr (.lst (cs.map pD))) := by
    simp only [evB1, f_sorted, pairOk_pD, if_true, hso]
  rw [b_fallen_eq]
  simp [evS, evE, evL, Oc.bind, Oc.toFl, look, looks, froz, srcD, lends, stor, ims, e, h1, h2, hso2]
  simp [endF]
end K68

set_option Elab.async false
set_option linter.all false
set_option maxRecDepth 100000
set_option maxHeartbeats 4000000
/-! _law_same on one value twice -/
namespace K68
open PySem PySem.Spec PyProof.Rows L2 EL Fl8
theorem fs_same : text.fs 12 = ⟨2, 4, b__law_same⟩ := by
  show (⟨d__law_same.np, _, _⟩ : Fn) = _
  rw [show d__law_same.np = 2 from by decide +kernel]
  rfl
def Sm (n : Nat) (d : D) : Prop := ∀ k, CD (k + n) 12 [.im d, .im d] = .ret (.im (.bl true)) .non
def samC : ME := .comp [2, 3] .zip (.cons (.var 0) (.cons (.var 1) .nil)) [2, 3] false .nil (.call 12 (.cons (.var 2) (.cons (.var 3) .nil)))
def samE : ME := .call 12 (.cons (.var 2) (.cons (.var 3) .nil))
theorem Sm.int (i : Int) : Sm 1 (.int i) := by
  intro k
  unfold CD
  rw [callD_at fs_same rfl rfl]
  show endF false (evS ⟨CD k, false, 1000000000, glob⟩ b__law_same [.im (.int i), .im (.int i), .no, .no]) = _
  have e1 : eqOk (.int i) = true := rfl
  simp [b__law_same, evS, evE, evL, ev2, ev1, Oc.bind, Oc.toFl, Rv.seen, look, looks, froz, k2, evC, evB1, f_isi, isTy, okTy, isNonD, bB, deq, e1]
  simp [endF]
theorem sam_loop {k n : Nat} {d0 : D} (acc0 : List D) : ∀ (xs acc : List D), (∀ d ∈ xs, Sm n d) → acc.length + xs.length < sizeLine →
    compL false [2, 3] [2, 3] none (evE ⟨CD (k + n), false, 1000000000, glob⟩ samE) (xs.zipWith (fun d e => D.tup [d, e]) xs) [.im d0, .im d0, .no, .no] acc = .ok (acc ++ List.replicate xs.length (.bl true)) [.im d0, .im d0, .no, .no]
  | [], acc, h, hz => by simp [compL]
  | x :: xs, acc, h, hz => by
    simp only [List.length_cons] at hz
    have hx := h x List.mem_cons_self k
    have hb : bindT false [2, 3] (.tup [x, x]) [.im d0, .im d0, .no, .no] = some [.im d0, .im d0, .im x, .im x] := by
      simp [bindT, EL.bindM, setAll]
    have ha : acc.length < sizeLine := by omega
    have he : evE ⟨CD (k + n), false, 1000000000, glob⟩ samE [.im d0, .im d0, .im x, .im x] = .ok (bB true) [.im d0, .im d0, .im x, .im x] := by
      simp [samE, evE, evL, Oc.bind, look, looks, froz, hx, flatR, flat, bB]
    simp only [List.zipWith_cons_cons, compL, hb, he, bB]
    have hn : noOwn [.im d0, .im d0, .im x, .im x] [2, 3] = true := by simp [noOwn]
    have hw : wipeD [.im d0, .im d0, .im x, .im x] [2, 3] = [.im d0, .im d0, .no, .no] := by simp [wipeD]
    simp only [froz, hn, hw, ha, decide_true, Bool.and_self, if_true]
    rw [sam_loop (k := k) (d0 := d0) acc0 xs (acc ++ [D.bl true]) (fun d hd => h d (List.mem_cons_of_mem _ hd)) (by simp only [List.length_append, List.length_cons, List.length_nil]; omega)]
    rw [List.append_assoc, List.length_cons, List.replicate_succ]
    rfl
theorem bls_rep : ∀ n, bls? (List.replicate n (.bl true)) = some (List.replicate n true)
  | 0 => rfl
  | n + 1 => by simp only [List.replicate_succ, bls?, bls_rep n]; rfl
theorem all_rep (n : Nat) : evB1 .all [.lst (List.replicate n (.bl true))] = some (bB true) := by
  simp only [evB1, f_all, bls_rep, Option.map_some]
  congr 2
  induction n with
  | zero => rfl
  | succ n ih => rw [List.replicate_succ, List.all_cons, ih]; rfl
theorem samC_ev {k n : Nat} {d0 : D} {ds : List D} (hd : d0 = .tup ds ∨ d0 = .lst ds) (h : ∀ d ∈ ds, Sm n d) (hz : ds.length < sizeLine) :
    evE ⟨CD (k + n), false, 1000000000, glob⟩ (.blt .all (.cons samC .nil)) [.im d0, .im d0, .no, .no] = .ok (bB true) [.im d0, .im d0, .no, .no] := by
  have hl := sam_loop (k := k) (n := n) (d0 := d0) [] ds [] h (by simpa using hz)
  have hw : wipeD [.im d0, .im d0, .no, .no] [2, 3] = [.im d0, .im d0, .no, .no] := by simp [wipeD]
  have hn : noOwn [.im d0, .im d0, .no, .no] [2, 3] = true := by simp [noOwn]
  have hs : srcD .zip [d0, d0] = some (ds.zipWith (fun d e => D.tup [d, e]) ds) := by
    rcases hd with rfl | rfl <;> rfl
  have hc : evE ⟨CD (k + n), false, 1000000000, glob⟩ samC [.im d0, .im d0, .no, .no] = .ok (.fr (.lst (List.replicate ds.length (.bl true)))) [.im d0, .im d0, .no, .no] := by
    unfold samC
    have e1 : evL ⟨CD (k + n), false, 1000000000, glob⟩ (.cons (.var 0) (.cons (.var 1) .nil)) [.im d0, .im d0, .no, .no] = .ok [.im d0, .im d0] [.im d0, .im d0, .no, .no] := by
      simp [evL, evE, Oc.bind, froz]
    simp only [evE, e1, Oc.bind, looks, look, hs, lends, hn, hw]
    have hl : compL false [2, 3] [2, 3] none (fun x => evE ⟨CD (k + n), false, 1000000000, glob⟩ samE x) _ _ [] = _ := hl
    simp [samE, evE, evL, Oc.bind] at hl ⊢
    simp [hl, restore]
  simp only [evE, evL, hc, Oc.bind, froz, looks, look, all_rep]
theorem eqOk_i (i : Int) : eqOk (.int i) = true := rfl
theorem same_tail : b__law_same = .seq (.iff (.cmp .isN (.var 1) (.cst .non)) (.seq (.ret (.cmp .isN (.var 0) (.cst .non))) .skip) .skip) (.seq (.iff (.blt .isi (.rd 1 (.cons (.cst (.ty "bool")) .nil))) (.seq (.ret (.and (.blt .isi (.rd 0 (.cons (.cst (.ty "bool")) .nil))) (.cmp .eq (.var 0) (.var 1)))) .skip) .skip) (.seq (.iff (.blt .isi (.rd 1 (.cons (.cst (.ty "int")) .nil))) (.seq (.ret (.and (.blt .isi (.rd 0 (.cons (.cst (.ty "int")) .nil))) (.and (.not (.blt .isi (.rd 0 (.cons (.cst (.ty "bool")) .nil)))) (.cmp .eq (.var 0) (.var 1))))) .skip) .skip) (.seq (.iff (.blt .isi (.rd 1 (.cons (.cst (.ty "str")) .nil))) (.seq (.ret (.and (.blt .isi (.rd 0 (.cons (.cst (.ty "str")) .nil))) (.cmp .eq (.var 0) (.var 1)))) .skip) .skip) (.seq (.iff (.or (.and (.blt .isi (.rd 1 (.cons (.cst (.ty "tuple")) .nil))) (.not (.blt .isi (.rd 0 (.cons (.cst (.ty "tuple")) .nil))))) (.and (.blt .isi (.rd 1 (.cons (.cst (.ty "list")) .nil))) (.not (.blt .isi (.rd 0 (.cons (.cst (.ty "list")) .nil)))))) (.seq (.ret (.cst (.bl false))) .skip) .skip) (.seq (.ret (.and (.cmp .eq (.blt .len (.rd 0 .nil)) (.blt .len (.rd 1 .nil))) (.blt .all (.cons samC .nil)))) .skip))))) := rfl
theorem Sm.row {n : Nat} {d0 : D} {ds : List D} (hd : d0 = .tup ds ∨ d0 = .lst ds) (h : ∀ d ∈ ds, Sm n d) (hz : ds.length < sizeLine) : Sm (n + 1) d0 := by
  intro k
  show CD (k + n + 1) 12 _ = _
  unfold CD
  rw [callD_at fs_same rfl rfl]
  show endF false (evS ⟨CD (k + n), false, 1000000000, glob⟩ b__law_same [.im d0, .im d0, .no, .no]) = _
  have hc := samC_ev (k := k) hd h hz
  rw [same_tail]
  generalize hm : (ME.blt .all (.cons samC .nil)) = mm at hc ⊢
  rcases hd with rfl | rfl
  · simp [evS, evE, evL, ev2, ev1, Oc.bind, Oc.toFl, Rv.seen, look, looks, froz, k2, evC, evB1, f_isi, isTy, okTy, isNonD, bB, bI, deq, f_len, eqOk_i, hc]
    simp [endF]
  · simp [evS, evE, evL, ev2, ev1, Oc.bind, Oc.toFl, Rv.seen, look, looks, froz, k2, evC, evB1, f_isi, isTy, okTy, isNonD, bB, bI, deq, f_len, eqOk_i, hc]
    simp [endF]
theorem Sm.pair (p : P) : Sm 2 (pD p) := by
  refine Sm.row (.inl rfl) (fun d hd => ?_) (by rw [sizeLine_eq]; show 2 < 16777216; decide)
  simp only [List.mem_cons, List.not_mem_nil, or_false] at hd
  rcases hd with rfl | rfl
  · exact Sm.int _
  · exact Sm.int _
theorem Sm.srt {l : List P} (hz : l.length < sizeLine) : Sm 3 (EL.sD l) := by
  refine Sm.row (.inl rfl) (fun d hd => ?_) (by rw [(dsort_perm _).length_eq, List.length_map]; exact hz)
  obtain ⟨p, _, rfl⟩ := List.mem_map.mp ((dsort_perm _).mem_iff.mp hd)
  exact Sm.pair p
theorem Sm.rows {ls : List (List P)} (hz : ls.length < sizeLine) (h : ∀ l ∈ ls, l.length < sizeLine) : Sm 4 (.lst (ls.map EL.sD)) := by
  refine Sm.row (.inr rfl) (fun d hd => ?_) (by rw [List.length_map]; exact hz)
  obtain ⟨l, hl, rfl⟩ := List.mem_map.mp hd
  exact Sm.srt (h l hl)
end K68

set_option Elab.async false
set_option linter.all false
set_option maxRecDepth 100000
set_option maxHeartbeats 4000000
/-! the law's small defs: cell, deal, kept, base -/
namespace EL
open PySem PySem.Spec PyProof.Rows L2
theorem kB_mul {a b : Int} {δ : Ds} (h : (small64i a || small64i b) = true) : kBin .mul (.im (.int a)) (.im (.int b)) δ = .ok (.im (.int (a * b))) δ := by
  simp [kBin, k2, look, dMul, h]
theorem kB_add {a b : Int} {δ : Ds} : kBin .add (.im (.int a)) (.im (.int b)) δ = .ok (.im (.int (a + b))) δ := rfl
theorem kB_sub {a b : Int} {δ : Ds} : kBin .sub (.im (.int a)) (.im (.int b)) δ = .ok (.im (.int (a - b))) δ := rfl
theorem kB_mod {a b : Int} {δ : Ds} (h : 0 < b) : kBin .mod (.im (.int a)) (.im (.int b)) δ = .ok (.im (.int (a % b))) δ := by
  simp [kBin, k2, look, dMod, h]
theorem kB_fdiv {a b : Int} {δ : Ds} (h : 0 < b) (h2 : b < 2 ^ 64) : kBin .fdiv (.im (.int a)) (.im (.int b)) δ = .ok (.im (.int (a / b))) δ := by
  simp only [kBin, k2, look, dFdiv, decide_eq_true h, decide_eq_true h2, Bool.and_self, if_true]
theorem kB_pow {a b : Int} {δ : Ds} (h : 0 ≤ b) (h2 : b ≤ 1000000) (h3 : small64i a = true) : kBin .pow (.im (.int a)) (.im (.int b)) δ = .ok (.im (.int (a ^ b.toNat))) δ := by
  simp only [kBin, k2, look, dPow, decide_eq_true h, decide_eq_true h2, h3, Bool.and_self, if_true]
theorem p18 {δ : Ds} : kBin .pow (.im (.int 10)) (.im (.int 18)) δ = .ok (.im (.int 1000000000000000000)) δ := kB_pow (by decide) (by decide) (by decide)
theorem p12 {δ : Ds} : kBin .pow (.im (.int 10)) (.im (.int 12)) δ = .ok (.im (.int 1000000000000)) δ := kB_pow (by decide) (by decide) (by decide)
theorem p6 {δ : Ds} : kBin .pow (.im (.int 10)) (.im (.int 6)) δ = .ok (.im (.int 1000000)) δ := kB_pow (by decide) (by decide) (by decide)
theorem small_of {a : Int} (h : -18446744073709551616 < a) (h2 : a < 18446744073709551616) : small64i a = true := by
  unfold small64i
  simp only [Bool.and_eq_true, decide_eq_true_eq]
  omega
theorem divmod_i {a b : Int} (h : 0 < b) (h2 : b < 18446744073709551616) : evB1 .divmod [.int a, .int b] = some (.im (.tup [.int (a / b), .int (a % b)])) := by
  have h3 : b < 2 ^ 64 := by simpa using h2
  simp only [evB1, f_divmod, decide_eq_true h, decide_eq_true h3, Bool.and_self, if_true]
end EL
namespace K68
open PySem PySem.Spec PyProof.Rows L2 EL Fl8
theorem fs_cell : text.fs 6 = ⟨2, 2, b__law_cell⟩ := by
  show (⟨d__law_cell.np, _, _⟩ : Fn) = _
  rw [show d__law_cell.np = 2 from by decide +kernel]
  rfl
theorem fs_deal : text.fs 7 = ⟨2, 5, b__law_deal⟩ := by
  show (⟨d__law_deal.np, _, _⟩ : Fn) = _
  rw [show d__law_deal.np = 2 from by decide +kernel]
  rfl
theorem fs_kept : text.fs 8 = ⟨2, 2, b__law_kept⟩ := by
  show (⟨d__law_kept.np, _, _⟩ : Fn) = _
  rw [show d__law_kept.np = 2 from by decide +kernel]
  rfl
theorem fs_base : text.fs 9 = ⟨1, 5, b__law_base⟩ := by
  show (⟨d__law_base.np, _, _⟩ : Fn) = _
  rw [show d__law_base.np = 1 from by decide +kernel]
  rfl
theorem cell_ev {k : Nat} (ns : List Int) : CD (k + 1) 6 [.im (.lst (ns.map D.int)), .im (.int 0)] = .ret (.im (.int (ns.headD 0))) .non := by
  unfold CD
  rw [callD_at fs_cell rfl rfl]
  show endF false (evS ⟨CD k, false, 1000000000, glob⟩ b__law_cell [.im (.lst (ns.map D.int)), .im (.int 0)]) = _
  cases ns with
  | nil =>
    simp [b__law_cell, evS, evE, evL, ev2, ev1, Oc.bind, Oc.toFl, Rv.seen, look, looks, froz, k2, evB1, f_len, evC_lt_i, bI, bB]
    simp [endF]
  | cons n ns =>
    have h : ∀ δ, kIx (.im (.lst (D.int n :: ns.map D.int))) (.im (.int 0)) δ = .ok (.im (.int n)) δ := fun δ => kIx_l rfl rfl (atN (i := 0) rfl)
    have h0 : (0 : Int) < (ns.length : Int) + 1 := by omega
    simp [b__law_cell, evS, evE, evL, ev2, ev1, Oc.bind, Oc.toFl, Rv.seen, look, looks, froz, k2, evB1, f_len, evC_lt_i, bI, bB, h, h0]
    simp [endF]
def dealB : MS := .seq (.asg 2 (.bin .mod (.bin .mul (.bin .add (.bin .add (.bin .add (.var 2) (.bin .mul (.bin .mul (.cst (.int 15)) (.var 4)) (.var 4))) (.bin .mul (.cst (.int 31)) (.var 1))) (.cst (.int 11))) (.cst (.int 48271))) (.cst (.int 2147483647)))) (.seq (.asg 2 (.bin .mod (.bin .mul (.var 2) (.var 2)) (.cst (.int 2147483629)))) (.seq (.asg 3 (.bin .add (.bin .mul (.var 3) (.cst (.int 998244353))) (.bin .fdiv (.bin .mod (.bin .mul (.var 2) (.cst (.int 69621))) (.cst (.int 2147483587))) (.cst (.int 7))))) .skip))
theorem deal_eq : b__law_deal = .seq (.iff (.cmp .ge (.var 0) (.bin .pow (.cst (.int 10)) (.cst (.int 18)))) (.seq (.ret (.bin .sub (.var 0) (.bin .pow (.cst (.int 10)) (.cst (.int 18))))) .skip) .skip) (.seq (.asg 2 (.bin .mod (.var 0) (.cst (.int 2147483629)))) (.seq (.asg 3 (.cst (.int 0))) (.seq (.loop .rng1 (.cons (.cst (.int 24)) .nil) [4] dealB) (.seq (.ret (.var 3)) .skip)))) := rfl
theorem deal_turn {C : Cn} (hlt : C.lt = false) (c one num j : Int) (h1 : 0 ≤ one) (h2 : one < 2147483629) (h3 : 0 ≤ num) (h4 : 0 ≤ j) (h5 : j < 24) :
    ∃ one' num' : Int, evS C dealB [.im (.int c), .im (.int 1), .im (.int one), .im (.int num), .im (.int j)] = .nx [.im (.int c), .im (.int 1), .im (.int one'), .im (.int num'), .im (.int j)] ∧ 0 ≤ one' ∧ one' < 2147483629 ∧ 0 ≤ num' := by
  have m1 : ∀ δ, kBin .mul (.im (.int 15)) (.im (.int j)) δ = .ok (.im (.int (15 * j))) δ := fun δ => kB_mul (by rfl)
  have m2 : ∀ δ, kBin .mul (.im (.int (15 * j))) (.im (.int j)) δ = .ok (.im (.int (15 * j * j))) δ := fun δ => kB_mul (by rw [small_of (a := j) (by omega) (by omega), Bool.or_true])
  have m3 : ∀ δ, kBin .mul (.im (.int 31)) (.im (.int 1)) δ = .ok (.im (.int 31)) δ := fun δ => kB_mul (by rfl)
  have m4 : ∀ (a : Int) δ, kBin .mul (.im (.int a)) (.im (.int 48271)) δ = .ok (.im (.int (a * 48271))) δ := fun a δ => kB_mul (by rw [small_of (a := 48271) (by omega) (by omega), Bool.or_true])
  have m5 : ∀ (a : Int) δ, kBin .mul (.im (.int a)) (.im (.int 998244353)) δ = .ok (.im (.int (a * 998244353))) δ := fun a δ => kB_mul (by rw [small_of (a := 998244353) (by omega) (by omega), Bool.or_true])
  have m6 : ∀ (a : Int) δ, kBin .mul (.im (.int a)) (.im (.int 69621)) δ = .ok (.im (.int (a * 69621))) δ := fun a δ => kB_mul (by rw [small_of (a := 69621) (by omega) (by omega), Bool.or_true])
  have m7 : ∀ (a : Int) δ, kBin .mod (.im (.int a)) (.im (.int 2147483647)) δ = .ok (.im (.int (a % 2147483647))) δ := fun a δ => kB_mod (by omega)
  have m8 : ∀ (a : Int) δ, kBin .mod (.im (.int a)) (.im (.int 2147483629)) δ = .ok (.im (.int (a % 2147483629))) δ := fun a δ => kB_mod (by omega)
  have m9 : ∀ (a : Int) δ, kBin .mod (.im (.int a)) (.im (.int 2147483587)) δ = .ok (.im (.int (a % 2147483587))) δ := fun a δ => kB_mod (by omega)
  have m10 : ∀ (a : Int) δ, kBin .fdiv (.im (.int a)) (.im (.int 7)) δ = .ok (.im (.int (a / 7))) δ := fun a δ => kB_fdiv (by omega) (by omega)
  have m11 : ∀ (a : Int) δ, kBin .mul (.im (.int (a % 2147483647))) (.im (.int (a % 2147483647))) δ = .ok (.im (.int (a % 2147483647 * (a % 2147483647)))) δ := fun a δ => kB_mul (by rw [small_of (a := a % 2147483647) (by omega) (by omega), Bool.or_true])
  let u : Int := (one + 15 * j * j + 31 + 11) * 48271
  let v : Int := u % 2147483647 * (u % 2147483647) % 2147483629
  have hv : v = u % 2147483647 * (u % 2147483647) % 2147483629 := rfl
  have hw := Int.emod_nonneg (v * 69621) (b := 2147483587) (by omega)
  refine ⟨v, num * 998244353 + v * 69621 % 2147483587 / 7, ?_, by omega, by omega, by omega⟩
  simp [dealB, evS, evE, ev2, Oc.bind, Oc.toFl, Rv.seen, stor, hlt, m1, m2, m3, m4, m5, m6, m7, m8, m9, m10, m11, kB_add, u, v]
theorem deal_ev {k : Nat} (c : Int) : ∃ n : Int, 0 ≤ n ∧ CD (k + 1) 7 [.im (.int c), .im (.int 1)] = .ret (.im (.int n)) .non := by
  unfold CD
  have he : callD 1000000000 glob text.fs (k + 1) 7 [.im (.int c), .im (.int 1)] = endF false (evS ⟨CD k, false, 1000000000, glob⟩ b__law_deal [.im (.int c), .im (.int 1), .no, .no, .no]) := callD_at fs_deal rfl rfl
  rw [he, deal_eq]
  by_cases hc : 1000000000000000000 ≤ c
  · refine ⟨c - 1000000000000000000, by omega, ?_⟩
    have hg : evC .ge (.int c) (.int 1000000000000000000) = some (.bl true) := by
      have : ¬ c < 1000000000000000000 := by omega
      simp [evC, eqOk, layD, depD, dlt, this]
      try omega
    simp [evS, evE, ev2, Oc.bind, Oc.toFl, Rv.seen, look, p18, k2, hg, kB_sub]
    simp [endF]
  · have hg : evC .ge (.int c) (.int 1000000000000000000) = some (.bl false) := by
      simp [evC, eqOk, layD, depD, dlt]
      try omega
    have m8 : ∀ (a : Int) δ, kBin .mod (.im (.int a)) (.im (.int 2147483629)) δ = .ok (.im (.int (a % 2147483629))) δ := fun a δ => kB_mod (by omega)
    obtain ⟨δ', h1, hd, one, num, s4, e, q1, q2, q3⟩ := forL_inv (lt := false) (tg := [4]) (b := evS ⟨CD k, false, 1000000000, glob⟩ dealB)
      (fun ds δ => (∀ d ∈ ds, ∃ j : Int, d = .int j ∧ 0 ≤ j ∧ j < 24) ∧ ∃ (one num : Int) (s4 : Sl), δ = [.im (.int c), .im (.int 1), .im (.int one), .im (.int num), s4] ∧ 0 ≤ one ∧ one < 2147483629 ∧ 0 ≤ num)
      (rngD 0 24) [.im (.int c), .im (.int 1), .im (.int (c % 2147483629)), .im (.int 0), .no] ⟨by
        intro d hd
        simp only [rngD, List.mem_map, List.mem_range] at hd
        obtain ⟨j, hj, rfl⟩ := hd
        exact ⟨_, rfl, by omega, by omega⟩, _, _, _, rfl, by omega, by omega, by omega⟩ (by
        rintro d ds δ ⟨hd, one, num, s4, rfl, q1, q2, q3⟩
        obtain ⟨j, rfl, j1, j2⟩ := hd d List.mem_cons_self
        obtain ⟨one', num', h, r1, r2, r3⟩ := deal_turn (C := ⟨CD k, false, 1000000000, glob⟩) rfl c one num j q1 q2 q3 j1 j2
        exact ⟨_, _, by simp [bindT], h, fun d hd' => hd d (List.mem_cons_of_mem _ hd'), _, _, _, rfl, r1, r2, r3⟩)
    subst e
    refine ⟨num, q3, ?_⟩
    have hr : srcD .rng1 [.int 24] = some (rngD 0 24) := rfl
    simp [evS, evE, evL, ev2, Oc.bind, Oc.toFl, Rv.seen, look, looks, lends, froz, p18, k2, hg, kB_sub, m8, stor, hr, h1]
    simp [endF]
theorem kept_ev {k : Nat} (a b : Int) : ∃ p : P, CD (k + 1) 8 [.im (.int a), .im (.int b)] = .ret (.im (pD p)) .non := by
  unfold CD
  rw [callD_at fs_kept rfl rfl]
  show ∃ p : P, endF false (evS ⟨CD k, false, 1000000000, glob⟩ b__law_kept [.im (.int a), .im (.int b)]) = _
  have hsz : (2 : Nat) ≤ sizeLine := by rw [sizeLine_eq]; decide
  simp [b__law_kept, evS, evE, evL, ev2, ev1, Oc.bind, Oc.toFl, Rv.seen, look, looks, froz, k1, dNeg, p12, evB1, f_min2, f_max2, bI, ims, hsz]
  simp only [endF]
  exact ⟨_, _, rfl⟩
def by0 : ME := .ix (.lst (.cons (.bin .add (.bin .mul (.cst (.int 2)) (.bin .pow (.cst (.int 10)) (.cst (.int 12)))) (.cst (.int 1))) (.cons (.cst (.int 2)) .nil))) (.var 1)
theorem base_ev {k : Nat} (n : Int) (hn : 0 ≤ n) : ∃ (p : P) (m : Int), 0 ≤ m ∧ CD (k + 1) 9 [.im (.int n)] = .ret (.im (.tup [pD p, .int m])) .non := by
  unfold CD
  rw [callD_at fs_base rfl rfl]
  show ∃ (p : P) (m : Int), 0 ≤ m ∧ endF false (evS ⟨CD k, false, 1000000000, glob⟩ b__law_base [.im (.int n), .no, .no, .no, .no]) = _
  have hsz : (2 : Nat) ≤ sizeLine := by rw [sizeLine_eq]; decide
  have d5 := divmod_i (a := n) (b := 5) (by omega) (by omega)
  have h5 : n % 5 < 5 := by omega
  have h50 : 0 ≤ n % 5 := by omega
  have hg : evC .gt (.int (n % 5)) (.int 1) = some (.bl (decide (1 < n % 5))) := by simp [evC, eqOk, layD, depD, dlt]
  have m2 : ∀ δ, kBin .mul (.im (.int 2)) (.im (.int 1000000000000)) δ = .ok (.im (.int 2000000000000)) δ := fun δ => kB_mul (by rfl)
  by_cases h1 : 1 < n % 5
  · refine ⟨(0, 0), n / 5, by omega, ?_⟩
    rw [decide_eq_true h1] at hg
    simp [b__law_base, evS, evE, evL, ev2, ev1, Oc.bind, Oc.toFl, Rv.seen, look, looks, froz, d5, bindT, EL.bindM, setAll, k2, hg, ims, hsz]
    simp [endF, pD]
  · rw [decide_eq_false h1] at hg
    have hw : n % 5 = 0 ∨ n % 5 = 1 := by omega
    have db : ∀ a : Int, evB1 .divmod [.int a, .int 2000000000001] = some (.im (.tup [.int (a / 2000000000001), .int (a % 2000000000001)])) := fun a => divmod_i (by omega) (by omega)
    have d2 : ∀ a : Int, evB1 .divmod [.int a, .int 2] = some (.im (.tup [.int (a / 2), .int (a % 2)])) := fun a => divmod_i (by omega) (by omega)
    have i0 : ∀ (x y : D) δ, kIx (.im (.lst [x, y])) (.im (.int 0)) δ = .ok (.im x) δ := fun x y δ => rfl
    have i1 : ∀ (x y : D) δ, kIx (.im (.lst [x, y])) (.im (.int 1)) δ = .ok (.im y) δ := fun x y δ => rfl
    have mb : ∀ (a b : Int) δ, kBin .mul (.im (.int (a % b))) (.im (.int 1)) δ = .ok (.im (.int (a % b * 1))) δ := fun a b δ => kB_mul (by rw [show small64i 1 = true from rfl, Bool.or_true])
    have mc : ∀ (a : Int) δ, kBin .mul (.im (.int a)) (.im (.int 2000000000000)) δ = .ok (.im (.int (a * 2000000000000))) δ := fun a δ => kB_mul (by rw [show small64i 2000000000000 = true from rfl, Bool.or_true])
    rcases hw with hw | hw
    · rw [hw] at d5 hg
      refine ⟨(n / 5 % 2000000000001 * 1 - 1000000000000, n / 5 / 2000000000001 % 2000000000001 * 1 - 1000000000000), n / 5 / 2000000000001 / 2000000000001, by omega, ?_⟩
      simp [b__law_base, evS, evE, evL, ev2, ev1, Oc.bind, Oc.toFl, Rv.seen, look, looks, froz, d5, bindT, EL.bindM, setAll, k2, hg, ims, hsz, p12, m2, kB_add, i0, i1, db, stor, mb, kB_sub, mc]
      try simp [endF, pD]
    · rw [hw] at d5 hg
      refine ⟨(n / 5 % 2 * 2000000000000 - 1000000000000, n / 5 / 2 % 2 * 2000000000000 - 1000000000000), n / 5 / 2 / 2, by omega, ?_⟩
      simp [b__law_base, evS, evE, evL, ev2, ev1, Oc.bind, Oc.toFl, Rv.seen, look, looks, froz, d5, bindT, EL.bindM, setAll, k2, hg, ims, hsz, p12, m2, kB_add, i0, i1, d2, stor, mb, kB_sub, mc]
      try simp [endF, pD]
end K68

set_option Elab.async false
set_option linter.all false
set_option maxRecDepth 100000
set_option maxHeartbeats 4000000
/-! the law's board -/
namespace K68
open PySem PySem.Spec PyProof.Rows L2 EL Fl8
theorem fs_board : text.fs 10 = ⟨1, 14, b__law_board⟩ := by
  show (⟨d__law_board.np, _, _⟩ : Fn) = _
  rw [show d__law_board.np = 1 from by decide +kernel]
  rfl
abbrev bf (n w : Int) (b : P) (L : List P) (m : Int) (s5 s6 s7 s8 s9 s10 s11 s12 s13 : Sl) : Ds :=
  [.im (.int n), .im (.int w), .im (pD b), .ow (cD L), .im (.int m), s5, s6, s7, s8, s9, s10, s11, s12, s13]
abbrev CC (k : Nat) : Cn := ⟨CD (k + 1), false, 1000000000, glob⟩
theorem put_ev {k : Nat} {a b : ME} {x y : Int} {δ : Ds} {l : List P} (ha : evE (CC k) a δ = .ok (.im (.int x)) δ) (hb : evE (CC k) b δ = .ok (.im (.int y)) δ) (hi : δ[3]? = some (.ow (cD l))) (hz : l.length < sizeLine) :
    ∃ p : P, evS (CC k) (.setx 3 (.call 8 (.cons a (.cons b .nil))) (.cst (.bl true))) δ = .nx (δ.set 3 (.ow (cD (insP l p)))) := by
  obtain ⟨p, hp⟩ := kept_ev (k := k) x y
  refine ⟨p, setx_c (by simp only [evE]) ?_ hi hz⟩
  simp [evE, evL, ha, hb, Oc.bind, froz, looks, look, hp, lends]
theorem rng_mem {lo : Int} {n : Nat} {d : D} (h : d ∈ rngD lo n) : ∃ j : Int, d = .int j ∧ lo ≤ j ∧ j < lo + n := by
  simp only [rngD, List.mem_map, List.mem_range] at h
  obtain ⟨j, hj, rfl⟩ := h
  exact ⟨_, rfl, by omega, by omega⟩
theorem rng_len (lo : Int) (n : Nat) : (rngD lo n).length = n := by simp [rngD]
theorem rng1_i {a : Int} (h : -100 ≤ a) (h2 : a < 100) : srcD .rng1 [.int a] = some (rngD 0 a.toNat) := by
  have : small62 a = true := by
    unfold small62
    simp only [Bool.and_eq_true, decide_eq_true_eq]
    omega
  simp only [srcD, this, if_true]
/-- the turn of way 0 -/
def w0B : MS := .seq (.unp [0, 6] (.blt .divmod (.rd 0 (.cons (.cst (.int 25)) .nil)))) (.seq (.setx 3 (.call 8 (.cons (.bin .add (.ix (.var 2) (.cst (.int 0))) (.bin .fdiv (.var 6) (.cst (.int 5)))) (.cons (.bin .add (.ix (.var 2) (.cst (.int 1))) (.bin .mod (.var 6) (.cst (.int 5)))) .nil))) (.cst (.bl true))) .skip)
def w0 : MS := .iff (.cmp .eq (.var 1) (.cst (.int 0))) (.seq (.loop .rng1 (.cons (.bin .add (.var 4) (.cst (.int 1))) .nil) [5] w0B) .skip) .skip
theorem evC_eq_i {a b : Int} : evC .eq (.int a) (.int b) = some (.bl (decide (a = b))) := by
  simp only [evC, eqOk_i, deq, Bool.and_self, if_true]
  congr 2
theorem evC_gt_i {a b : Int} : evC .gt (.int a) (.int b) = some (.bl (decide (b < a))) := by simp [evC, eqOk, layD, depD, dlt]
theorem w0B_ev {k : Nat} {n w m : Int} {b : P} {L : List P} {s5 s6 s7 s8 s9 s10 s11 s12 s13 : Sl} (hn : 0 ≤ n) (hz : L.length < 10000) :
    ∃ (p : P) (n' : Int) (s6' : Sl), 0 ≤ n' ∧ evS (CC k) w0B (bf n w b L m s5 s6 s7 s8 s9 s10 s11 s12 s13) = .nx (bf n' w b (insP L p) m s5 s6' s7 s8 s9 s10 s11 s12 s13) := by
  have hs : sizeLine = 16777216 := sizeLine_eq
  have d1 := divmod_i (a := n) (b := 25) (by omega) (by omega)
  have f1 : ∀ δ, kBin .fdiv (.im (.int (n % 25))) (.im (.int 5)) δ = .ok (.im (.int (n % 25 / 5))) δ := fun δ => kB_fdiv (by omega) (by omega)
  have f2 : ∀ δ, kBin .mod (.im (.int (n % 25))) (.im (.int 5)) δ = .ok (.im (.int (n % 25 % 5))) δ := fun δ => kB_mod (by omega)
  obtain ⟨p, hp⟩ := put_ev (k := k) (a := .bin .add (.ix (.var 2) (.cst (.int 0))) (.bin .fdiv (.var 6) (.cst (.int 5)))) (b := .bin .add (.ix (.var 2) (.cst (.int 1))) (.bin .mod (.var 6) (.cst (.int 5)))) (x := b.1 + n % 25 / 5) (y := b.2 + n % 25 % 5) (δ := bf (n / 25) w b L m s5 (.im (.int (n % 25))) s7 s8 s9 s10 s11 s12 s13) (l := L)
    (by simp [evE, ev2, Oc.bind, Rv.seen, kIx_p0, kIx_p1, f1, f2, kB_add]) (by simp [evE, ev2, Oc.bind, Rv.seen, kIx_p0, kIx_p1, f1, f2, kB_add]) rfl (by omega)
  refine ⟨p, n / 25, .im (.int (n % 25)), by omega, ?_⟩
  have h1 : evS (CC k) (.unp [0, 6] (.blt .divmod (.rd 0 (.cons (.cst (.int 25)) .nil)))) (bf n w b L m s5 s6 s7 s8 s9 s10 s11 s12 s13) = .nx (bf (n / 25) w b L m s5 (.im (.int (n % 25))) s7 s8 s9 s10 s11 s12 s13) := by
    simp [bf, evS, evE, evL, Oc.bind, Oc.toFl, look, looks, froz, d1, bindT, EL.bindM, setAll]
  unfold w0B
  rw [evS, h1]
  simp only
  rw [evS, hp]
  simp [evS]
/-- the board's frame, its cells at most N -/
def Bd (w m : Int) (b : P) (N : Nat) (δ : Ds) : Prop := ∃ (n : Int) (L : List P) (s5 s6 s7 s8 s9 s10 s11 s12 s13 : Sl), δ = bf n w b L m s5 s6 s7 s8 s9 s10 s11 s12 s13 ∧ 0 ≤ n ∧ L.Nodup ∧ L.length ≤ N
theorem w0_ev {k : Nat} {w m : Int} {b : P} {N : Nat} {δ : Ds} (hN : N < 5000) (hm : 0 ≤ m) (hm2 : m < 6) (h : Bd w m b N δ) : ∃ δ', evS (CC k) w0 δ = .nx δ' ∧ Bd w m b (N + 10) δ' := by
  obtain ⟨n, L, s5, s6, s7, s8, s9, s10, s11, s12, s13, rfl, h1, h2, h3⟩ := h
  by_cases hw : w = 0
  · obtain ⟨δ', e, _, hi⟩ := forL_inv (lt := false) (tg := [5]) (b := evS (CC k) w0B)
      (fun ds δ => ds.length ≤ 6 ∧ ∃ (n : Int) (L : List P) (s5 s6 s7 s8 s9 s10 s11 s12 s13 : Sl), δ = bf n w b L m s5 s6 s7 s8 s9 s10 s11 s12 s13 ∧ 0 ≤ n ∧ L.Nodup ∧ L.length + ds.length ≤ N + 10)
      (rngD 0 (m + 1).toNat) _ ⟨by rw [rng_len]; omega, n, L, s5, s6, s7, s8, s9, s10, s11, s12, s13, rfl, h1, h2, by rw [rng_len]; omega⟩ (by
        rintro d ds δ ⟨hl, n, L, s5, s6, s7, s8, s9, s10, s11, s12, s13, rfl, h1, h2, h3⟩
        simp only [List.length_cons] at hl h3
        obtain ⟨p, n', s6', q1, q2⟩ := w0B_ev (k := k) (n := n) (w := w) (m := m) (b := b) (L := L) (s5 := .im d) (s6 := s6) (s7 := s7) (s8 := s8) (s9 := s9) (s10 := s10) (s11 := s11) (s12 := s12) (s13 := s13) h1 (by omega)
        have := insP_len L p
        exact ⟨bf n w b L m (.im d) s6 s7 s8 s9 s10 s11 s12 s13, _, by simp [bindT, bf], q2, by omega, n', _, _, _, _, _, _, _, _, _, _, rfl, q1, insP_nd h2, by omega⟩)
    obtain ⟨n', L', t5, t6, t7, t8, t9, t10, t11, t12, t13, rfl, g1, g2, g3⟩ := hi
    refine ⟨_, ?_, n', L', t5, t6, t7, t8, t9, t10, t11, t12, t13, rfl, g1, g2, by simpa using g3⟩
    have r1 := rng1_i (a := m + 1) (by omega) (by omega)
    simp [w0, evS, evE, evL, ev2, Oc.bind, Oc.toFl, Rv.seen, k2, look, looks, lends, froz, evC_eq_i, hw, kB_add, r1]
    rw [hw] at e
    simp [e]
  · refine ⟨_, ?_, n, L, s5, s6, s7, s8, s9, s10, s11, s12, s13, rfl, h1, h2, by omega⟩
    simp [w0, evS, evE, ev2, Oc.bind, Oc.toFl, Rv.seen, k2, look, evC_eq_i, hw]
end K68

set_option Elab.async false
set_option linter.all false
set_option maxRecDepth 100000
set_option maxHeartbeats 4000000
namespace K68
open PySem PySem.Spec PyProof.Rows L2 EL Fl8
def w1C : ME := .or (.cmp .inn (.var 10) (.tup (.cons (.cst (.int 0)) (.cons (.var 8) .nil)))) (.cmp .inn (.var 11) (.tup (.cons (.cst (.int 0)) (.cons (.var 9) .nil))))
def w1P : MS := .setx 3 (.call 8 (.cons (.bin .add (.bin .add (.ix (.var 2) (.cst (.int 0))) (.var 7)) (.var 10)) (.cons (.bin .add (.bin .sub (.bin .add (.ix (.var 2) (.cst (.int 1))) (.bin .mul (.cst (.int 3)) (.var 5))) (.var 7)) (.var 11)) .nil))) (.cst (.bl true))
def w1D : MS := .seq (.iff w1C (.seq w1P .skip) .skip) .skip
def w1R : MS := .seq (.loop .rng1 (.cons (.bin .add (.cst (.int 1)) (.var 9)) .nil) [11] w1D) .skip
def w1B : MS := .seq (.unp [0, 7] (.blt .divmod (.rd 0 (.cons (.cst (.int 4)) .nil)))) (.seq (.unp [0, 8] (.blt .divmod (.rd 0 (.cons (.cst (.int 5)) .nil)))) (.seq (.unp [0, 9] (.blt .divmod (.rd 0 (.cons (.cst (.int 5)) .nil)))) (.seq (.loop .rng1 (.cons (.bin .add (.cst (.int 1)) (.var 8)) .nil) [10] w1R) .skip)))
def w1 : MS := .iff (.cmp .eq (.var 1) (.cst (.int 1))) (.seq (.loop .rng1 (.cons (.bin .add (.cst (.int 1)) (.bin .mod (.var 4) (.cst (.int 3)))) .nil) [5] w1B) .skip) .skip
theorem evC_in2 (a x y : Int) : ∃ q : Bool, evC .inn (.int a) (.tup [.int x, .int y]) = some (.bl q) := ⟨dmem (.int a) [.int x, .int y], rfl⟩
theorem w1D_ev {k : Nat} {n w m : Int} {b : P} {L : List P} {k5 t7 t8 t9 r c : Int} {s6 s12 s13 : Sl} (hz : L.length < 10000) :
    ∃ L' : List P, evS (CC k) w1D (bf n w b L m (.im (.int k5)) s6 (.im (.int t7)) (.im (.int t8)) (.im (.int t9)) (.im (.int r)) (.im (.int c)) s12 s13) = .nx (bf n w b L' m (.im (.int k5)) s6 (.im (.int t7)) (.im (.int t8)) (.im (.int t9)) (.im (.int r)) (.im (.int c)) s12 s13) ∧ (L.Nodup → L'.Nodup) ∧ L'.length ≤ L.length + 1 := by
  have hs : sizeLine = 16777216 := sizeLine_eq
  have hsz : (2 : Nat) ≤ sizeLine := by omega
  obtain ⟨q1, h1⟩ := evC_in2 r 0 t8
  obtain ⟨q2, h2⟩ := evC_in2 c 0 t9
  have hc : evE (CC k) w1C (bf n w b L m (.im (.int k5)) s6 (.im (.int t7)) (.im (.int t8)) (.im (.int t9)) (.im (.int r)) (.im (.int c)) s12 s13) = .ok (bB (q1 || q2)) (bf n w b L m (.im (.int k5)) s6 (.im (.int t7)) (.im (.int t8)) (.im (.int t9)) (.im (.int r)) (.im (.int c)) s12 s13) := by
    cases q1 <;> simp [w1C, bf, evE, evL, ev2, Oc.bind, Rv.seen, look, froz, ims, hsz, k2, h1, h2, bB]
  cases hq : (q1 || q2) with
  | false =>
    rw [hq] at hc
    refine ⟨L, ?_, id, by omega⟩
    unfold w1D
    simp only [evS, hc, Oc.toFl, bB]
  | true =>
    rw [hq] at hc
    have m3 : ∀ δ, kBin .mul (.im (.int 3)) (.im (.int k5)) δ = .ok (.im (.int (3 * k5))) δ := fun δ => kB_mul (by rfl)
    obtain ⟨p, hp⟩ := put_ev (k := k) (a := .bin .add (.bin .add (.ix (.var 2) (.cst (.int 0))) (.var 7)) (.var 10)) (b := .bin .add (.bin .sub (.bin .add (.ix (.var 2) (.cst (.int 1))) (.bin .mul (.cst (.int 3)) (.var 5))) (.var 7)) (.var 11)) (x := b.1 + t7 + r) (y := b.2 + 3 * k5 - t7 + c) (δ := bf n w b L m (.im (.int k5)) s6 (.im (.int t7)) (.im (.int t8)) (.im (.int t9)) (.im (.int r)) (.im (.int c)) s12 s13) (l := L)
      (by simp [evE, ev2, Oc.bind, Rv.seen, kIx_p0, kIx_p1, kB_add]) (by simp [evE, ev2, Oc.bind, Rv.seen, kIx_p0, kIx_p1, m3, kB_add, kB_sub]) rfl (by omega)
    refine ⟨insP L p, ?_, insP_nd, insP_len L p⟩
    have hp : evS (CC k) w1P _ = _ := hp
    unfold w1D
    simp only [evS, hc, Oc.toFl, bB, hp]
    rfl
theorem w1R_ev {k : Nat} {n w m : Int} {b : P} {L : List P} {k5 t7 t8 t9 r : Int} {s6 s11 s12 s13 : Sl} (h9 : 0 ≤ t9) (h9' : t9 < 5) (hz : L.length < 9000) :
    ∃ (L' : List P) (s11' : Sl), evS (CC k) w1R (bf n w b L m (.im (.int k5)) s6 (.im (.int t7)) (.im (.int t8)) (.im (.int t9)) (.im (.int r)) s11 s12 s13) = .nx (bf n w b L' m (.im (.int k5)) s6 (.im (.int t7)) (.im (.int t8)) (.im (.int t9)) (.im (.int r)) s11' s12 s13) ∧ (L.Nodup → L'.Nodup) ∧ L'.length ≤ L.length + 5 := by
  obtain ⟨δ', e, _, L', s11', rfl, g1, g2⟩ := forL_inv (lt := false) (tg := [11]) (b := evS (CC k) w1D)
      (fun ds δ => (∀ d ∈ ds, ∃ j : Int, d = .int j) ∧ ∃ (L' : List P) (s11 : Sl), δ = bf n w b L' m (.im (.int k5)) s6 (.im (.int t7)) (.im (.int t8)) (.im (.int t9)) (.im (.int r)) s11 s12 s13 ∧ (L.Nodup → L'.Nodup) ∧ L'.length + ds.length ≤ L.length + 5)
      (rngD 0 (1 + t9).toNat) _ ⟨fun d hd => by
        obtain ⟨j, e, _⟩ := rng_mem hd
        exact ⟨j, e⟩, L, s11, rfl, id, by rw [rng_len]; omega⟩ (by
        rintro d ds δ ⟨hi, L', s11, rfl, h1, h2⟩
        simp only [List.length_cons] at h2
        obtain ⟨j, rfl⟩ := hi d List.mem_cons_self
        obtain ⟨L2, q1, q2, q3⟩ := w1D_ev (k := k) (n := n) (w := w) (m := m) (b := b) (L := L') (k5 := k5) (t7 := t7) (t8 := t8) (t9 := t9) (r := r) (c := j) (s6 := s6) (s12 := s12) (s13 := s13) (by omega)
        exact ⟨bf n w b L' m (.im (.int k5)) s6 (.im (.int t7)) (.im (.int t8)) (.im (.int t9)) (.im (.int r)) (.im (.int j)) s12 s13, _, by simp [bindT, bf], q1, fun d hd => hi d (List.mem_cons_of_mem _ hd), L2, _, rfl, fun h => q2 (h1 h), by omega⟩)
  refine ⟨L', s11', ?_, g1, by simpa using g2⟩
  have r1 := rng1_i (a := 1 + t9) (by omega) (by omega)
  simp [w1R, evS, evE, evL, ev2, Oc.bind, Oc.toFl, Rv.seen, look, looks, lends, froz, kB_add, r1]
  simp [e]
theorem w1B_ev {k : Nat} {n w m : Int} {b : P} {L : List P} {k5 : Int} {s6 s7 s8 s9 s10 s11 s12 s13 : Sl} (hn : 0 ≤ n) (hz : L.length < 8000) :
    ∃ (n' : Int) (L' : List P) (s7' s8' s9' s10' s11' : Sl), evS (CC k) w1B (bf n w b L m (.im (.int k5)) s6 s7 s8 s9 s10 s11 s12 s13) = .nx (bf n' w b L' m (.im (.int k5)) s6 s7' s8' s9' s10' s11' s12 s13) ∧ (L.Nodup → L'.Nodup) ∧ L'.length ≤ L.length + 25 ∧ 0 ≤ n' := by
  have d1 := divmod_i (a := n) (b := 4) (by omega) (by omega)
  have d2 := divmod_i (a := n / 4) (b := 5) (by omega) (by omega)
  have d3 := divmod_i (a := n / 4 / 5) (b := 5) (by omega) (by omega)
  obtain ⟨δ', e, _, L', s10', s11', rfl, g1, g2⟩ := forL_inv (lt := false) (tg := [10]) (b := evS (CC k) w1R)
      (fun ds δ => (∀ d ∈ ds, ∃ j : Int, d = .int j) ∧ ∃ (L' : List P) (s10 s11 : Sl), δ = bf (n / 4 / 5 / 5) w b L' m (.im (.int k5)) s6 (.im (.int (n % 4))) (.im (.int (n / 4 % 5))) (.im (.int (n / 4 / 5 % 5))) s10 s11 s12 s13 ∧ (L.Nodup → L'.Nodup) ∧ L'.length + 5 * ds.length ≤ L.length + 25)
      (rngD 0 (1 + n / 4 % 5).toNat) _ ⟨fun d hd => by
        obtain ⟨j, e, _⟩ := rng_mem hd
        exact ⟨j, e⟩, L, s10, s11, rfl, id, by rw [rng_len]; omega⟩ (by
        rintro d ds δ ⟨hi, L', s10, s11, rfl, h1, h2⟩
        simp only [List.length_cons] at h2
        obtain ⟨j, rfl⟩ := hi d List.mem_cons_self
        obtain ⟨L2, s11', q1, q2, q3⟩ := w1R_ev (k := k) (n := n / 4 / 5 / 5) (w := w) (m := m) (b := b) (L := L') (k5 := k5) (t7 := n % 4) (t8 := n / 4 % 5) (t9 := n / 4 / 5 % 5) (r := j) (s6 := s6) (s11 := s11) (s12 := s12) (s13 := s13) (by omega) (by omega) (by omega)
        exact ⟨bf (n / 4 / 5 / 5) w b L' m (.im (.int k5)) s6 (.im (.int (n % 4))) (.im (.int (n / 4 % 5))) (.im (.int (n / 4 / 5 % 5))) (.im (.int j)) s11 s12 s13, _, by simp [bindT, bf], q1, fun d hd => hi d (List.mem_cons_of_mem _ hd), L2, _, _, rfl, fun h => q2 (h1 h), by omega⟩)
  refine ⟨n / 4 / 5 / 5, L', .im (.int (n % 4)), .im (.int (n / 4 % 5)), .im (.int (n / 4 / 5 % 5)), s10', s11', ?_, g1, by simpa using g2, by omega⟩
  have r1 := rng1_i (a := 1 + n / 4 % 5) (by omega) (by omega)
  simp [w1B, evS, evE, evL, ev2, Oc.bind, Oc.toFl, Rv.seen, look, looks, lends, froz, d1, d2, d3, bindT, EL.bindM, setAll, kB_add, r1]
  simp [e]
theorem w1_ev {k : Nat} {w m : Int} {b : P} {N : Nat} {δ : Ds} (hN : N < 5000) (hm : 0 ≤ m) (hm2 : m < 6) (h : Bd w m b N δ) : ∃ δ', evS (CC k) w1 δ = .nx δ' ∧ Bd w m b (N + 100) δ' := by
  obtain ⟨n, L, s5, s6, s7, s8, s9, s10, s11, s12, s13, rfl, h1, h2, h3⟩ := h
  by_cases hw : w = 1
  · obtain ⟨δ', e, _, hi⟩ := forL_inv (lt := false) (tg := [5]) (b := evS (CC k) w1B)
      (fun ds δ => (∀ d ∈ ds, ∃ j : Int, d = .int j) ∧ ∃ (n : Int) (L : List P) (s5 s6 s7 s8 s9 s10 s11 s12 s13 : Sl), δ = bf n w b L m s5 s6 s7 s8 s9 s10 s11 s12 s13 ∧ 0 ≤ n ∧ L.Nodup ∧ L.length + 25 * ds.length ≤ N + 100)
      (rngD 0 (1 + m % 3).toNat) _ ⟨fun d hd => by
        obtain ⟨j, e, _⟩ := rng_mem hd
        exact ⟨j, e⟩, n, L, s5, s6, s7, s8, s9, s10, s11, s12, s13, rfl, h1, h2, by rw [rng_len]; omega⟩ (by
        rintro d ds δ ⟨hi, n, L, s5, s6, s7, s8, s9, s10, s11, s12, s13, rfl, h1, h2, h3⟩
        simp only [List.length_cons] at h3
        obtain ⟨j, rfl⟩ := hi d List.mem_cons_self
        obtain ⟨n', L', t7, t8, t9, t10, t11, q1, q2, q3, q4⟩ := w1B_ev (k := k) (n := n) (w := w) (m := m) (b := b) (L := L) (k5 := j) (s6 := s6) (s7 := s7) (s8 := s8) (s9 := s9) (s10 := s10) (s11 := s11) (s12 := s12) (s13 := s13) h1 (by omega)
        exact ⟨bf n w b L m (.im (.int j)) s6 s7 s8 s9 s10 s11 s12 s13, _, by simp [bindT, bf], q1, fun d hd => hi d (List.mem_cons_of_mem _ hd), n', L', _, _, _, _, _, _, _, _, _, rfl, q4, q2 h2, by omega⟩)
    obtain ⟨n', L', t5, t6, t7, t8, t9, t10, t11, t12, t13, rfl, g1, g2, g3⟩ := hi
    refine ⟨_, ?_, n', L', t5, t6, t7, t8, t9, t10, t11, t12, t13, rfl, g1, g2, by simpa using g3⟩
    have r1 := rng1_i (a := 1 + m % 3) (by omega) (by omega)
    have f2 : ∀ δ, kBin .mod (.im (.int m)) (.im (.int 3)) δ = .ok (.im (.int (m % 3))) δ := fun δ => kB_mod (by omega)
    simp [w1, evS, evE, evL, ev2, Oc.bind, Oc.toFl, Rv.seen, k2, look, looks, lends, froz, evC_eq_i, hw, f2, kB_add, r1]
    rw [hw] at e
    simp [e]
  · refine ⟨_, ?_, n, L, s5, s6, s7, s8, s9, s10, s11, s12, s13, rfl, h1, h2, by omega⟩
    simp [w1, evS, evE, ev2, Oc.bind, Oc.toFl, Rv.seen, k2, look, evC_eq_i, hw]
end K68

set_option Elab.async false
set_option linter.all false
set_option maxRecDepth 100000
set_option maxHeartbeats 4000000
namespace K68
open PySem PySem.Spec PyProof.Rows L2 EL Fl8
def w2C : ME := .cmp .eq (.bin .and (.bin .shr (.var 12) (.var 11)) (.cst (.int 1))) (.cst (.int 1))
def w2P : MS := .setx 3 (.call 8 (.cons (.bin .add (.ix (.var 2) (.cst (.int 0))) (.var 10)) (.cons (.bin .add (.ix (.var 2) (.cst (.int 1))) (.var 11)) .nil))) (.cst (.bl true))
def w2D : MS := .seq (.iff w2C (.seq w2P .skip) .skip) .skip
def w2B : MS := .seq (.unp [0, 12] (.blt .divmod (.rd 0 (.cons (.cst (.int 64)) .nil)))) (.seq (.loop .rng1 (.cons (.cst (.int 6)) .nil) [11] w2D) .skip)
def w2 : MS := .iff (.cmp .gt (.var 1) (.cst (.int 1))) (.seq (.loop .rng1 (.cons (.bin .add (.var 4) (.cst (.int 1))) .nil) [10] w2B) .skip) .skip
theorem w2D_ev {k : Nat} {n w m : Int} {b : P} {L : List P} {r c t : Int} {s5 s6 s7 s8 s9 s13 : Sl} (hc0 : 0 ≤ c) (hz : L.length < 10000) :
    ∃ L' : List P, evS (CC k) w2D (bf n w b L m s5 s6 s7 s8 s9 (.im (.int r)) (.im (.int c)) (.im (.int t)) s13) = .nx (bf n w b L' m s5 s6 s7 s8 s9 (.im (.int r)) (.im (.int c)) (.im (.int t)) s13) ∧ (L.Nodup → L'.Nodup) ∧ L'.length ≤ L.length + 1 := by
  have hs : sizeLine = 16777216 := sizeLine_eq
  have hc : ∃ q : Bool, evE (CC k) w2C (bf n w b L m s5 s6 s7 s8 s9 (.im (.int r)) (.im (.int c)) (.im (.int t)) s13) = .ok (bB q) (bf n w b L m s5 s6 s7 s8 s9 (.im (.int r)) (.im (.int c)) (.im (.int t)) s13) := by
    refine ⟨decide (Builtin.bitAnd (t / 2 ^ c.toNat) 1 = 1), ?_⟩
    simp [w2C, bf, evE, evL, ev2, Oc.bind, Rv.seen, look, k2, kBin, dShr, dAnd, hc0, evC_eq_i, bB]
  obtain ⟨q, hc⟩ := hc
  cases q with
  | false =>
    refine ⟨L, ?_, id, by omega⟩
    unfold w2D
    simp only [evS, hc, Oc.toFl, bB]
  | true =>
    obtain ⟨p, hp⟩ := put_ev (k := k) (a := .bin .add (.ix (.var 2) (.cst (.int 0))) (.var 10)) (b := .bin .add (.ix (.var 2) (.cst (.int 1))) (.var 11)) (x := b.1 + r) (y := b.2 + c) (δ := bf n w b L m s5 s6 s7 s8 s9 (.im (.int r)) (.im (.int c)) (.im (.int t)) s13) (l := L)
      (by simp [evE, ev2, Oc.bind, Rv.seen, kIx_p0, kIx_p1, kB_add]) (by simp [evE, ev2, Oc.bind, Rv.seen, kIx_p0, kIx_p1, kB_add]) rfl (by omega)
    refine ⟨insP L p, ?_, insP_nd, insP_len L p⟩
    have hp : evS (CC k) w2P _ = _ := hp
    unfold w2D
    simp only [evS, hc, Oc.toFl, bB, hp]
    rfl
theorem w2B_ev {k : Nat} {n w m : Int} {b : P} {L : List P} {r : Int} {s5 s6 s7 s8 s9 s11 s12 s13 : Sl} (hn : 0 ≤ n) (hz : L.length < 9000) :
    ∃ (n' : Int) (L' : List P) (s11' s12' : Sl), evS (CC k) w2B (bf n w b L m s5 s6 s7 s8 s9 (.im (.int r)) s11 s12 s13) = .nx (bf n' w b L' m s5 s6 s7 s8 s9 (.im (.int r)) s11' s12' s13) ∧ (L.Nodup → L'.Nodup) ∧ L'.length ≤ L.length + 6 ∧ 0 ≤ n' := by
  have d1 := divmod_i (a := n) (b := 64) (by omega) (by omega)
  obtain ⟨δ', e, _, L', s11', rfl, g1, g2⟩ := forL_inv (lt := false) (tg := [11]) (b := evS (CC k) w2D)
      (fun ds δ => (∀ d ∈ ds, ∃ j : Int, d = .int j ∧ 0 ≤ j) ∧ ∃ (L' : List P) (s11 : Sl), δ = bf (n / 64) w b L' m s5 s6 s7 s8 s9 (.im (.int r)) s11 (.im (.int (n % 64))) s13 ∧ (L.Nodup → L'.Nodup) ∧ L'.length + ds.length ≤ L.length + 6)
      (rngD 0 6) _ ⟨fun d hd => by
        obtain ⟨j, e, h, _⟩ := rng_mem hd
        exact ⟨j, e, h⟩, L, s11, rfl, id, by rw [rng_len]; omega⟩ (by
        rintro d ds δ ⟨hi, L', s11, rfl, h1, h2⟩
        simp only [List.length_cons] at h2
        obtain ⟨j, rfl, hj⟩ := hi d List.mem_cons_self
        obtain ⟨L2, q1, q2, q3⟩ := w2D_ev (k := k) (n := n / 64) (w := w) (m := m) (b := b) (L := L') (r := r) (c := j) (t := n % 64) (s5 := s5) (s6 := s6) (s7 := s7) (s8 := s8) (s9 := s9) (s13 := s13) hj (by omega)
        exact ⟨bf (n / 64) w b L' m s5 s6 s7 s8 s9 (.im (.int r)) (.im (.int j)) (.im (.int (n % 64))) s13, _, by simp [bindT, bf], q1, fun d hd => hi d (List.mem_cons_of_mem _ hd), L2, _, rfl, fun h => q2 (h1 h), by omega⟩)
  refine ⟨n / 64, L', s11', .im (.int (n % 64)), ?_, g1, by simpa using g2, by omega⟩
  have r1 : srcD .rng1 [.int 6] = some (rngD 0 6) := rfl
  simp [w2B, evS, evE, evL, ev2, Oc.bind, Oc.toFl, Rv.seen, look, looks, lends, froz, d1, bindT, EL.bindM, setAll, r1]
  simp [e]
theorem w2_ev {k : Nat} {w m : Int} {b : P} {N : Nat} {δ : Ds} (hN : N < 5000) (hm : 0 ≤ m) (hm2 : m < 6) (h : Bd w m b N δ) : ∃ δ', evS (CC k) w2 δ = .nx δ' ∧ Bd w m b (N + 100) δ' := by
  obtain ⟨n, L, s5, s6, s7, s8, s9, s10, s11, s12, s13, rfl, h1, h2, h3⟩ := h
  by_cases hw : 1 < w
  · obtain ⟨δ', e, _, hi⟩ := forL_inv (lt := false) (tg := [10]) (b := evS (CC k) w2B)
      (fun ds δ => (∀ d ∈ ds, ∃ j : Int, d = .int j) ∧ ∃ (n : Int) (L : List P) (s5 s6 s7 s8 s9 s10 s11 s12 s13 : Sl), δ = bf n w b L m s5 s6 s7 s8 s9 s10 s11 s12 s13 ∧ 0 ≤ n ∧ L.Nodup ∧ L.length + 6 * ds.length ≤ N + 100)
      (rngD 0 (m + 1).toNat) _ ⟨fun d hd => by
        obtain ⟨j, e, _⟩ := rng_mem hd
        exact ⟨j, e⟩, n, L, s5, s6, s7, s8, s9, s10, s11, s12, s13, rfl, h1, h2, by rw [rng_len]; omega⟩ (by
        rintro d ds δ ⟨hi, n, L, s5, s6, s7, s8, s9, s10, s11, s12, s13, rfl, h1, h2, h3⟩
        simp only [List.length_cons] at h3
        obtain ⟨j, rfl⟩ := hi d List.mem_cons_self
        obtain ⟨n', L', t11, t12, q1, q2, q3, q4⟩ := w2B_ev (k := k) (n := n) (w := w) (m := m) (b := b) (L := L) (r := j) (s5 := s5) (s6 := s6) (s7 := s7) (s8 := s8) (s9 := s9) (s11 := s11) (s12 := s12) (s13 := s13) h1 (by omega)
        exact ⟨bf n w b L m s5 s6 s7 s8 s9 (.im (.int j)) s11 s12 s13, _, by simp [bindT, bf], q1, fun d hd => hi d (List.mem_cons_of_mem _ hd), n', L', _, _, _, _, _, _, _, _, _, rfl, q4, q2 h2, by omega⟩)
    obtain ⟨n', L', t5, t6, t7, t8, t9, t10, t11, t12, t13, rfl, g1, g2, g3⟩ := hi
    refine ⟨_, ?_, n', L', t5, t6, t7, t8, t9, t10, t11, t12, t13, rfl, g1, g2, by simpa using g3⟩
    have r1 := rng1_i (a := m + 1) (by omega) (by omega)
    simp [w2, evS, evE, evL, ev2, Oc.bind, Oc.toFl, Rv.seen, k2, look, looks, lends, froz, evC_gt_i, hw, kB_add, r1]
    simp [e]
  · refine ⟨_, ?_, n, L, s5, s6, s7, s8, s9, s10, s11, s12, s13, rfl, h1, h2, by omega⟩
    simp [w2, evS, evE, ev2, Oc.bind, Oc.toFl, Rv.seen, k2, look, evC_gt_i, hw]
/-- the cells, sorted -/
theorem srt_cells (L : List P) : ∃ cs : List P, dsort (L.map pD) = cs.map pD ∧ dsort (cs.map pD) = cs.map pD ∧ cs.length = L.length := by
  have hall : ∀ d ∈ dsort (L.map pD), ∃ p, d = pD p := fun d hd => by
    obtain ⟨p, _, rfl⟩ := List.mem_map.mp ((dsort_perm _).mem_iff.mp hd)
    exact ⟨p, rfl⟩
  have hex : ∀ l : List D, (∀ d ∈ l, ∃ p, d = pD p) → ∃ cs : List P, l = cs.map pD := by
    intro l
    induction l with
    | nil => exact fun _ => ⟨[], rfl⟩
    | cons d l ih =>
      intro h
      obtain ⟨cs, rfl⟩ := ih fun d hd => h d (List.mem_cons_of_mem _ hd)
      obtain ⟨p, rfl⟩ := h d List.mem_cons_self
      exact ⟨p :: cs, rfl⟩
  obtain ⟨cs, e⟩ := hex _ hall
  have ho : ∀ y ∈ cs.map pD, ordD y = true := fun y hy => by
    obtain ⟨p, _, rfl⟩ := List.mem_map.mp hy
    exact ord_pD p
  have ho2 : ∀ y ∈ L.map pD, ordD y = true := fun y hy => by
    obtain ⟨p, _, rfl⟩ := List.mem_map.mp hy
    exact ord_pD p
  refine ⟨cs, e, ?_, ?_⟩
  · refine sd_unique (fun y hy => ho y ((dsort_perm _).mem_iff.mp hy)) (dsort_sd _ ho) (e ▸ dsort_sd _ ho2) (dsort_perm _)
  · have := (dsort_perm (L.map pD)).length_eq
    rw [e, List.length_map, List.length_map] at this
    exact this
def goB : MS := .seq (.unp [0, 6] (.blt .divmod (.rd 0 (.cons (.blt .len (.rd 3 .nil)) .nil)))) (.seq (.expr (.popi 3 (.ix (.blt .sorted (.rd 3 .nil)) (.var 6)))) .skip)
theorem goB_ev {k : Nat} {n w m : Int} {b : P} {L : List P} {s5 s6 s7 s8 s9 s10 s11 s12 s13 : Sl} (hn : 0 ≤ n) (hpos : 0 < L.length) (hz : L.length < 10000) :
    ∃ (p : P) (n' : Int) (s6' : Sl), p ∈ L ∧ 0 ≤ n' ∧ evS (CC k) goB (bf n w b L m s5 s6 s7 s8 s9 s10 s11 s12 s13) = .nx (bf n' w b (L.erase p) m s5 s6' s7 s8 s9 s10 s11 s12 s13) := by
  have hs : sizeLine = 16777216 := sizeLine_eq
  obtain ⟨cs, e, _, e3⟩ := srt_cells L
  have d1 := divmod_i (a := n) (b := L.length) (by omega) (by omega)
  have q1 := Int.emod_nonneg n (b := L.length) (by omega)
  have q2 := Int.emod_lt_of_pos n (b := L.length) (by omega)
  obtain ⟨i, hi⟩ : ∃ i : Nat, n % (L.length : Int) = i := ⟨(n % (L.length : Int)).toNat, by omega⟩
  have hil : i < cs.length := by omega
  have hp : cs[i]? = some cs[i] := List.getElem?_eq_getElem hil
  have hm : cs[i] ∈ L := by
    have h1 : pD cs[i] ∈ L.map pD := (dsort_perm _).mem_iff.mp (by rw [e]; exact List.mem_map_of_mem (List.getElem_mem hil))
    obtain ⟨p, hp, he⟩ := List.mem_map.mp h1
    have : p = cs[i] := by
      have h2 := deq_pD p cs[i]
      rw [he, deq_pD, decide_eq_true rfl] at h2
      exact of_decide_eq_true h2.symm
    exact this ▸ hp
  generalize hq : cs[i] = p at hp hm
  have hat : atI (cs.map pD) (i : Int) = some (pD p) := atN (by rw [List.getElem?_map, hp]; rfl)
  have hix : ∀ δ, kIx (.im (.lst (cs.map pD))) (.im (.int (n % (L.length : Int)))) δ = .ok (.im (pD p)) δ := fun δ => kIx_l rfl (by rw [hi]; rfl) hat
  have hlk := dlook_cD p L
  rw [if_pos hm] at hlk
  have ht : (tkey (pD p)).isSome = true := by rw [tkey_pD]; rfl
  have hzl : L.length ≤ sizeLine := by omega
  have hso : evB1 .sorted [cD L] = some (.fr (.lst (cs.map pD))) := by
    simp only [evB1, f_sorted, cD, pairOk_pD, List.length_map, decide_eq_true hzl, Bool.and_self, if_true, e]
  have hln : evB1 .len [cD L] = some (.im (.int L.length)) := by
    simp only [evB1, f_len, cD, List.length_map, decide_eq_true hzl, if_true, bI]
  have e4 : (.dic ((L.erase p).map pD) ((L.erase p).map tD) : D) = cD (L.erase p) := rfl
  refine ⟨p, n / (L.length : Int), .im (.int (n % (L.length : Int))), hm, Int.ediv_nonneg hn (by omega), ?_⟩
  have h1 : evS (CC k) (.unp [0, 6] (.blt .divmod (.rd 0 (.cons (.blt .len (.rd 3 .nil)) .nil)))) (bf n w b L m s5 s6 s7 s8 s9 s10 s11 s12 s13) = .nx (bf (n / (L.length : Int)) w b L m s5 (.im (.int (n % (L.length : Int)))) s7 s8 s9 s10 s11 s12 s13) := by
    simp [bf, evS, evE, evL, Oc.bind, Oc.toFl, look, looks, froz, hln, d1, bindT, EL.bindM, setAll]
  have h2 : evE (CC k) (.ix (.blt .sorted (.rd 3 .nil)) (.var 6)) (bf (n / (L.length : Int)) w b L m s5 (.im (.int (n % (L.length : Int)))) s7 s8 s9 s10 s11 s12 s13) = .ok (.im (pD p)) (bf (n / (L.length : Int)) w b L m s5 (.im (.int (n % (L.length : Int)))) s7 s8 s9 s10 s11 s12 s13) := by
    simp [evE, evL, ev2, Oc.bind, Rv.seen, look, looks, hso, hix]
  have h3 : evE (CC k) (.popi 3 (.ix (.blt .sorted (.rd 3 .nil)) (.var 6))) (bf (n / (L.length : Int)) w b L m s5 (.im (.int (n % (L.length : Int)))) s7 s8 s9 s10 s11 s12 s13) = .ok (.im (.bl true)) (bf (n / (L.length : Int)) w b (L.erase p) m s5 (.im (.int (n % (L.length : Int)))) s7 s8 s9 s10 s11 s12 s13) := by
    rw [evE]
    have hk := kSort_cD p L
    simp only [List.getElem?_cons_succ, List.getElem?_cons_zero, bf, cD] at h2 ⊢
    simp only [h2, Oc.bind, look, List.getElem?_cons_succ, List.getElem?_cons_zero, hk, ht, List.length_map, decide_eq_true hzl, Bool.and_self, if_true, hlk, ddel_cD, List.set_cons_succ, List.set_cons_zero]
  unfold goB
  rw [evS, h1]
  simp only
  rw [evS, evS, h3]
  simp [Oc.toFl, evS]
end K68

set_option Elab.async false
set_option linter.all false
set_option maxRecDepth 100000
set_option maxHeartbeats 4000000
namespace K68
open PySem PySem.Spec PyProof.Rows L2 EL Fl8
def goL : MS := .loop .rng1 (.cons (.blt .min2 (.rd 13 (.cons (.blt .len (.rd 3 .nil)) .nil))) .nil) [5] goB
def boT : MS := .seq (.unp [0, 13] (.blt .divmod (.rd 0 (.cons (.cst (.int 3)) .nil)))) (.seq goL (.seq (.ret (.tup (.cons (.blt .tuple (.cons (.blt .sorted (.rd 3 .nil)) .nil)) (.cons (.var 0) .nil)))) .skip))
theorem board_eq : b__law_board = .seq (.unp [0, 1] (.blt .divmod (.rd 0 (.cons (.cst (.int 5)) .nil)))) (.seq (.unp [2, 0] (.call 9 (.cons (.var 0) .nil))) (.seq (.asg 3 .dic0) (.seq (.unp [0, 4] (.blt .divmod (.rd 0 (.cons (.cst (.int 6)) .nil)))) (.seq w0 (.seq w1 (.seq w2 boT)))))) := rfl
theorem goL_ev {k : Nat} {n w m : Int} {b : P} {L : List P} {s5 s6 s7 s8 s9 s10 s11 s12 : Sl} {g : Int} (hg : 0 ≤ g) (hg3 : g < 3) (hn : 0 ≤ n) (hnd : L.Nodup) (hz : L.length < 10000) :
    ∃ (n' : Int) (L' : List P) (s5' s6' : Sl), evS (CC k) goL (bf n w b L m s5 s6 s7 s8 s9 s10 s11 s12 (.im (.int g))) = .nx (bf n' w b L' m s5' s6' s7 s8 s9 s10 s11 s12 (.im (.int g))) ∧ 0 ≤ n' ∧ L'.Nodup ∧ L'.length < 10000 := by
  have hs : sizeLine = 16777216 := sizeLine_eq
  have hzl : L.length ≤ sizeLine := by omega
  have hln : evB1 .len [cD L] = some (.im (.int L.length)) := by
    simp only [evB1, f_len, cD, List.length_map, decide_eq_true hzl, if_true, bI]
  obtain ⟨t, ht1, ht2, ht3, ht⟩ : ∃ t : Int, 0 ≤ t ∧ t < 3 ∧ t ≤ L.length ∧ evB1 .min2 [.int g, .int L.length] = some (.im (.int t)) := by
    refine ⟨if (L.length : Int) < g then (L.length : Int) else g, ?_, ?_, ?_, rfl⟩ <;> split <;> omega
  obtain ⟨δ', e, n', L', s5', s6', rfl, g1, g2, g3, g4⟩ := forL_inv (lt := false) (tg := [5]) (b := evS (CC k) goB)
      (fun ds δ => ∃ (n' : Int) (L' : List P) (s5 s6 : Sl), δ = bf n' w b L' m s5 s6 s7 s8 s9 s10 s11 s12 (.im (.int g)) ∧ 0 ≤ n' ∧ L'.Nodup ∧ L'.length < 10000 ∧ ds.length ≤ L'.length)
      (rngD 0 t.toNat) _ ⟨n, L, s5, s6, rfl, hn, hnd, hz, by rw [rng_len]; omega⟩ (by
        rintro d ds δ ⟨n, L, s5, s6, rfl, h1, h2, h3, h4⟩
        simp only [List.length_cons] at h4
        obtain ⟨p, n', s6', q1, q2, q3⟩ := goB_ev (k := k) (n := n) (w := w) (m := m) (b := b) (L := L) (s5 := .im d) (s6 := s6) (s7 := s7) (s8 := s8) (s9 := s9) (s10 := s10) (s11 := s11) (s12 := s12) (s13 := .im (.int g)) h1 (by omega) h3
        have hl := List.length_erase_of_mem q1
        exact ⟨bf n w b L m (.im d) s6 s7 s8 s9 s10 s11 s12 (.im (.int g)), _, by simp [bindT, bf], q3, n', _, _, _, rfl, q2, h2.erase p, by omega, by omega⟩)
  refine ⟨n', L', s5', s6', ?_, g1, g2, g3⟩
  have r1 := rng1_i (a := t) (by omega) (by omega)
  simp [goL, evS, evE, evL, Oc.bind, Oc.toFl, look, looks, lends, froz, hln, ht, r1]
  simp [e]
theorem boT_ev {k : Nat} {w m : Int} {b : P} {N : Nat} {δ : Ds} (hN : N < 9000) (h : Bd w m b N δ) :
    ∃ (cs : List P) (n : Int) (δ' : Ds), evS (CC k) boT δ = .rt (.im (.tup [.tup (cs.map pD), .int n])) δ' ∧ 0 ≤ n ∧ dsort (cs.map pD) = cs.map pD ∧ cs.length < 10000 := by
  obtain ⟨n, L, s5, s6, s7, s8, s9, s10, s11, s12, s13, rfl, h1, h2, h3⟩ := h
  have hs : sizeLine = 16777216 := sizeLine_eq
  have d1 := divmod_i (a := n) (b := 3) (by omega) (by omega)
  obtain ⟨n', L', s5', s6', q1, q2, q3, q4⟩ := goL_ev (k := k) (n := n / 3) (w := w) (m := m) (b := b) (L := L) (s5 := s5) (s6 := s6) (s7 := s7) (s8 := s8) (s9 := s9) (s10 := s10) (s11 := s11) (s12 := s12) (g := n % 3) (by omega) (by omega) (by omega) h2 (by omega)
  obtain ⟨cs, e, e2, e3⟩ := srt_cells L'
  have hzl : L'.length ≤ sizeLine := by omega
  have hsz : (2 : Nat) ≤ sizeLine := by omega
  have hso : evB1 .sorted [cD L'] = some (.fr (.lst (cs.map pD))) := by
    simp only [evB1, f_sorted, cD, pairOk_pD, List.length_map, decide_eq_true hzl, Bool.and_self, if_true, e]
  have hu : evS (CC k) (.unp [0, 13] (.blt .divmod (.rd 0 (.cons (.cst (.int 3)) .nil)))) (bf n w b L m s5 s6 s7 s8 s9 s10 s11 s12 s13) = .nx (bf (n / 3) w b L m s5 s6 s7 s8 s9 s10 s11 s12 (.im (.int (n % 3)))) := by
    simp [bf, evS, evE, evL, Oc.bind, Oc.toFl, look, looks, froz, d1, bindT, EL.bindM, setAll]
  have hr : evS (CC k) (.ret (.tup (.cons (.blt .tuple (.cons (.blt .sorted (.rd 3 .nil)) .nil)) (.cons (.var 0) .nil)))) (bf n' w b L' m s5' s6' s7 s8 s9 s10 s11 s12 (.im (.int (n % 3)))) = .rt (.im (.tup [.tup (cs.map pD), .int n'])) (bf n' w b L' m s5' s6' s7 s8 s9 s10 s11 s12 (.im (.int (n % 3)))) := by
    simp [bf, evS, evE, evL, Oc.bind, Oc.toFl, look, looks, froz, hso]
    simp [evB1, f_tuple, ims, hsz]
  refine ⟨cs, n', bf n' w b L' m s5' s6' s7 s8 s9 s10 s11 s12 (.im (.int (n % 3))), ?_, q2, e2, by omega⟩
  unfold boT
  rw [evS, hu]
  simp only
  rw [evS, q1]
  simp only
  rw [evS, hr]
theorem board_ev {k : Nat} (n : Int) (hn : 0 ≤ n) : ∃ (cs : List P) (n' : Int), CD (k + 2) 10 [.im (.int n)] = .ret (.im (.tup [.tup (cs.map pD), .int n'])) .non ∧ 0 ≤ n' ∧ dsort (cs.map pD) = cs.map pD ∧ cs.length < 10000 := by
  unfold CD
  rw [callD_at fs_board rfl rfl]
  show ∃ (cs : List P) (n' : Int), endF false (evS (CC k) b__law_board [.im (.int n), .no, .no, .no, .no, .no, .no, .no, .no, .no, .no, .no, .no, .no]) = _ ∧ _
  have d1 := divmod_i (a := n) (b := 5) (by omega) (by omega)
  obtain ⟨b, n1, hn1, hb⟩ := base_ev (k := k) (n / 5) (by omega)
  have d2 := divmod_i (a := n1) (b := 6) (by omega) (by omega)
  have h0 : Bd (n % 5) (n1 % 6) b 0 (bf (n1 / 6) (n % 5) b [] (n1 % 6) .no .no .no .no .no .no .no .no .no) := ⟨_, _, _, _, _, _, _, _, _, _, _, rfl, by omega, .nil, Nat.le_refl 0⟩
  obtain ⟨δ1, e1, h1⟩ := w0_ev (k := k) (by omega) (by omega) (by omega) h0
  obtain ⟨δ2, e2, h2⟩ := w1_ev (k := k) (by omega) (by omega) (by omega) h1
  obtain ⟨δ3, e3, h3⟩ := w2_ev (k := k) (by omega) (by omega) (by omega) h2
  obtain ⟨cs, n', δ4, e4, q1, q2, q3⟩ := boT_ev (k := k) (by omega) h3
  refine ⟨cs, n', ?_, q1, q2, q3⟩
  have e0 : (.dic [] [] : D) = cD [] := rfl
  rw [board_eq]
  generalize hw0 : w0 = v0 at e1 ⊢
  generalize hw1 : w1 = v1 at e2 ⊢
  generalize hw2 : w2 = v2 at e3 ⊢
  generalize hw3 : boT = v3 at e4 ⊢
  simp [evS, evE, evL, Oc.bind, Oc.toFl, look, looks, lends, froz, d1, bindT, EL.bindM, setAll, hb, stor, d2, e0]
  have e1 : evS (CC k) v0 [.im (.int (n1 / 6)), .im (.int (n % 5)), .im (pD b), .ow (cD []), .im (.int (n1 % 6)), .no, .no, .no, .no, .no, .no, .no, .no, .no] = _ := e1
  simp only [e1, e2, e3, e4, endF]
  rfl
end K68

set_option Elab.async false
set_option linter.all false
set_option maxRecDepth 100000
set_option maxHeartbeats 4000000
namespace K68
open PySem PySem.Spec PyProof.Rows L2 EL Fl8
theorem sD_perm {l m : List P} (h : l.Perm m) : sD l = sD m := by
  unfold sD
  have ho : ∀ (l : List P), ∀ y ∈ l.map pD, ordD y = true := fun l y hy => by
    obtain ⟨p, _, rfl⟩ := List.mem_map.mp hy
    exact ord_pD p
  congr 1
  exact sd_unique (fun y hy => ho l y ((dsort_perm _).mem_iff.mp hy)) (dsort_sd _ (ho l)) (dsort_sd _ (ho m)) (((dsort_perm _).trans (h.map pD)).trans (dsort_perm _).symm)
theorem sym8 : Sym ss8 := by
  intro s hs
  simp only [ss8, List.mem_cons, List.not_mem_nil, or_false] at hs
  rcases hs with rfl | rfl | rfl | rfl | rfl | rfl | rfl | rfl <;> simp [ss8]
theorem prts_len (steps : List P) (n : Nat) : ∀ cs S : List P, (prts steps n cs S).length ≤ cs.length
  | [], S => by simp [prts]
  | c :: cs, S => by
    unfold prts
    split
    · simp only [List.length_cons]
      have := prts_len steps n cs (flo steps n (S.erase c) [c] 0).1
      omega
    · have := prts_len steps n cs S
      simp only [List.length_cons]
      omega
theorem part_len {cs l : List P} (hz : cs.length < 1000000) (hl : l ∈ prts ss8 1000000000 cs (ntP [] cs)) : l.length < 1000000 := by
  have hn := ntP_nd cs [] .nil
  have hlen := ntP_len cs []
  simp only [List.length_nil] at hlen
  cases l with
  | nil => simp
  | cons a l =>
    obtain ⟨h1, h2⟩ := part_same sym8 hn (by omega) hl List.mem_cons_self
    have h3 := (flo_nd (steps := ss8) hn h1 1000000000).length_eq
    rw [List.length_append, h2.length_eq] at h3
    omega
def spotB : MS := .seq (.iff (.not (.call 12 (.cons (.call 5 (.cons (.var 6) (.cons (.var 4) .nil))) (.cons (.var 9) .nil)))) (.seq (.ret (.cst (.bl false))) .skip) .skip) .skip
def partB : MS := .seq (.loop .each (.cons (.var 9) .nil) [4] spotB) .skip
def farC : ME := .and (.cmp .eq (.bin .mod (.var 3) (.cst (.int 4))) (.cst (.int 1))) (.cmp .eq (.comp [4] .each (.cons (.var 2) .nil) [4] true (.cmp .lt (.ix (.var 4) (.cst (.int 0))) (.bin .sub (.cst (.int 9)) (.bin .pow (.cst (.int 10)) (.cst (.int 12))))) (.var 4)) (.lst .nil))
def farT : MS := .seq (.asg 5 (.lst (.cons (.tup (.cons (.bin .sub (.cst (.int 3)) (.bin .pow (.cst (.int 10)) (.cst (.int 12)))) (.cons (.bin .sub (.bin .pow (.cst (.int 10)) (.cst (.int 12))) (.cst (.int 5))) .nil))) (.cons (.tup (.cons (.bin .sub (.cst (.int 5)) (.bin .pow (.cst (.int 10)) (.cst (.int 12)))) (.cons (.bin .sub (.bin .add (.bin .mod (.var 3) (.bin .pow (.cst (.int 10)) (.cst (.int 6)))) (.cst (.int 50))) (.bin .pow (.cst (.int 10)) (.cst (.int 12)))) .nil))) .nil)))) (.seq (.asg 2 (.blt .tuple (.cons (.blt .sorted (.cons (.bin .add (.blt .list (.rd 2 .nil)) (.var 5)) .nil)) .nil))) .skip)
def lawE : MS := .seq (.asg 6 (.tup (.cons (.var 2) (.cons (.cst (.bl false)) .nil)))) (.seq (.asg 7 (.call 11 (.cons (.var 2) (.cons (.cst (.bl false)) .nil)))) (.seq (.asg 8 (.call 4 (.cons (.var 6) .nil))) (.seq (.iff (.not (.call 12 (.rd 8 (.cons (.var 7) .nil)))) (.seq (.ret (.cst (.bl false))) .skip) .skip) (.seq (.app 8 (.tup .nil)) (.seq (.loop .each (.cons (.var 7) .nil) [9] partB) (.seq (.iff (.not (.call 12 (.cons (.call 4 (.cons (.var 6) .nil)) (.cons (.var 7) .nil)))) (.seq (.ret (.cst (.bl false))) .skip) .skip) .skip))))))
def lawB : MS := .seq (.unp [2, 3] (.call 10 (.cons (.call 7 (.cons (.var 1) (.cons (.cst (.int 1)) .nil))) .nil))) (.seq (.iff farC farT .skip) lawE)
theorem law_eq : b_law = .seq (.loop .each (.cons (.bin .add (.lst (.cons (.call 6 (.cons (.var 0) (.cons (.cst (.int 0)) .nil))) .nil)) (.cut (.var 0) (.cst (.int 1)) (.cst (.int 7)))) .nil) [1] lawB) (.seq (.ret (.cst (.bl true))) .skip) := rfl
abbrev C11 : Cn := ⟨CD 11, false, 1000000000, glob⟩
theorem spot_ev {cs l : List P} (hz : cs.length < 20000) (hl : l ∈ prts ss8 1000000000 cs (ntP [] cs)) {a : P} (ha : a ∈ l) {s0 s1 s2 s3 s5 s7 s8 : Sl} :
    evS C11 spotB [s0, s1, s2, s3, .im (pD a), s5, .im (shD cs), s7, s8, .im (sD l)] = .nx [s0, s1, s2, s3, .im (pD a), s5, .im (shD cs), s7, s8, .im (sD l)] := by
  have hn := ntP_nd cs [] .nil
  have hlen := ntP_len cs []
  simp only [List.length_nil] at hlen
  obtain ⟨h1, h2⟩ := part_same sym8 hn (by omega) hl ha
  have hp := part_of_ev (k := 9) cs (by omega) h1
  rw [sD_perm h2] at hp
  have hs : sizeLine = 16777216 := sizeLine_eq
  have hm := Sm.srt (l := l) (by have := part_len (by omega) hl; omega) 8
  simp [spotB, evS, evE, evL, Oc.bind, Oc.toFl, look, looks, lends, froz, hp, hm, bB]
theorem part_ev {cs l : List P} (hz : cs.length < 20000) (hl : l ∈ prts ss8 1000000000 cs (ntP [] cs)) {s0 s1 s2 s3 s4 s5 s7 s8 : Sl} :
    ∃ s4', evS C11 partB [s0, s1, s2, s3, s4, s5, .im (shD cs), s7, s8, .im (sD l)] = .nx [s0, s1, s2, s3, s4', s5, .im (shD cs), s7, s8, .im (sD l)] ∧ (isOw s4 = false → isOw s4' = false) := by
  obtain ⟨δ', e, _, s4', rfl, q⟩ := forL_inv (lt := false) (tg := [4]) (b := evS C11 spotB)
    (fun ds δ => (∀ d ∈ ds, ∃ a ∈ l, d = pD a) ∧ ∃ s4', δ = [s0, s1, s2, s3, s4', s5, .im (shD cs), s7, s8, .im (sD l)] ∧ (isOw s4 = false → isOw s4' = false))
    (dsort (l.map pD)) _ ⟨fun d hd => by
      obtain ⟨a, ha, rfl⟩ := List.mem_map.mp ((dsort_perm _).mem_iff.mp hd)
      exact ⟨a, ha, rfl⟩, s4, rfl, id⟩ (by
      rintro d ds δ ⟨hi, s4', rfl, q⟩
      obtain ⟨a, ha, rfl⟩ := hi d List.mem_cons_self
      exact ⟨[s0, s1, s2, s3, .im (pD a), s5, .im (shD cs), s7, s8, .im (sD l)], _, by simp [bindT], spot_ev hz hl ha, fun d hd => hi d (List.mem_cons_of_mem _ hd), _, rfl, fun _ => rfl⟩)
  refine ⟨s4', ?_, q⟩
  have hs : srcD .each [sD l] = some (dsort (l.map pD)) := rfl
  simp [partB, evS, evE, evL, Oc.bind, Oc.toFl, look, looks, lends, froz, hs, e]
theorem lawE_ev {cs : List P} (hz : cs.length < 20000) (hso : dsort (cs.map pD) = cs.map pD) {s0 s1 s3 s4 s5 s6 s7 s8 s9 : Sl} (h4 : isOw s4 = false) :
    ∃ s4' s6' s7' s8' s9', evS C11 lawE [s0, s1, .im (.tup (cs.map pD)), s3, s4, s5, s6, s7, s8, s9] = .nx [s0, s1, .im (.tup (cs.map pD)), s3, s4', s5, s6', s7', s8', s9'] ∧ isOw s4' = false := by
  have hs : sizeLine = 16777216 := sizeLine_eq
  have hsz : (2 : Nat) ≤ sizeLine := by omega
  have hpl := prts_len ss8 1000000000 cs (ntP [] cs)
  have hpz : (prts ss8 1000000000 cs (ntP [] cs)).length < sizeLine := by omega
  have hf := fallen_ev (k := 10) cs (by omega) hso
  have hp := parts_ev (k := 8) cs (by omega)
  have hm := Sm.rows (ls := prts ss8 1000000000 cs (ntP [] cs)) hpz (fun l hl => by have := part_len (by omega) hl; omega) 7
  have hsh : (.tup [.tup (cs.map pD), .bl false] : D) = shD cs := rfl
  have hem : (0 : Nat) ≤ sizeLine := by omega
  have hl : ∀ (acc : D) , ∃ s4' s9', forL false [9] (evS C11 partB) ((prts ss8 1000000000 cs (ntP [] cs)).map sD) [s0, s1, .im (.tup (cs.map pD)), s3, s4, s5, .im (shD cs), .im (.lst ((prts ss8 1000000000 cs (ntP [] cs)).map sD)), .ow acc, s9] = .nx [s0, s1, .im (.tup (cs.map pD)), s3, s4', s5, .im (shD cs), .im (.lst ((prts ss8 1000000000 cs (ntP [] cs)).map sD)), .ow acc, s9'] ∧ isOw s4' = false := by
    intro acc
    obtain ⟨δ', e, _, s4', s9', rfl, q⟩ := forL_inv (lt := false) (tg := [9]) (b := evS C11 partB)
      (fun ds δ => (∀ d ∈ ds, ∃ l ∈ prts ss8 1000000000 cs (ntP [] cs), d = sD l) ∧ ∃ s4' s9', δ = [s0, s1, .im (.tup (cs.map pD)), s3, s4', s5, .im (shD cs), .im (.lst ((prts ss8 1000000000 cs (ntP [] cs)).map sD)), .ow acc, s9'] ∧ isOw s4' = false)
      ((prts ss8 1000000000 cs (ntP [] cs)).map sD) _ ⟨fun d hd => by
        obtain ⟨a, ha, rfl⟩ := List.mem_map.mp hd
        exact ⟨a, ha, rfl⟩, s4, s9, rfl, h4⟩ (by
        rintro d ds δ ⟨hi, s4', s9', rfl, q⟩
        obtain ⟨l, hl, rfl⟩ := hi d List.mem_cons_self
        obtain ⟨t4, q1, q2⟩ := part_ev (cs := cs) hz hl (s0 := s0) (s1 := s1) (s2 := .im (.tup (cs.map pD))) (s3 := s3) (s4 := s4') (s5 := s5) (s7 := .im (.lst ((prts ss8 1000000000 cs (ntP [] cs)).map sD))) (s8 := .ow acc)
        exact ⟨_, _, by simp [bindT], q1, fun d hd => hi d (List.mem_cons_of_mem _ hd), _, _, rfl, q2 q⟩)
    exact ⟨s4', s9', e, q⟩
  generalize hpr : (prts ss8 1000000000 cs (ntP [] cs)).map sD = pr at *
  have hprl : pr.length < sizeLine := by rw [← hpr, List.length_map]; exact hpz
  obtain ⟨s4', s9', e, q⟩ := hl (.lst (pr ++ [.tup []]))
  refine ⟨s4', .im (shD cs), .im (.lst pr), .ow (.lst (pr ++ [.tup []])), s9', ?_, q⟩
  generalize hpb : partB = pb at e
  unfold lawE
  rw [hpb]
  have hf2 : ∀ x, flatR (.im (.bl x)) = true := fun x => rfl
  simp [evS, evE, evL, Oc.bind, Oc.toFl, look, looks, lends, froz, ims, hsz, stor, hsh, hf, hp, hm, hf2, bB, hem, hprl, srcD, e]
end K68

set_option Elab.async false
set_option linter.all false
set_option maxRecDepth 100000
set_option maxHeartbeats 4000000
namespace K68
open PySem PySem.Spec PyProof.Rows L2 EL Fl8
theorem fs_law : text.fs 13 = ⟨1, 10, b_law⟩ := by
  show (⟨d_law.np, _, _⟩ : Fn) = _
  rw [show d_law.np = 1 from by decide +kernel]
  rfl
theorem lay_pDs : ∀ l : List P, layDs (l.map pD) = true
  | [] => rfl
  | p :: l => by
    rw [List.map_cons, layDs, lay_pDs l]
    simp [pD, layD, layDs]
theorem dep_pDs : ∀ l : List P, depDs (l.map pD) ≤ 1
  | [] => by simp [depDs]
  | p :: l => by
    have := dep_pDs l
    rw [List.map_cons, depDs]
    simp only [pD, depD, depDs]
    omega
theorem eqOk_cs (l : List P) : eqOk (.lst (l.map pD)) = true := by
  have := dep_pDs l
  simp only [eqOk, layD, lay_pDs, depD, Bool.true_and]
  exact decide_eq_true (by omega)
def fcE : ME := .cmp .lt (.ix (.var 4) (.cst (.int 0))) (.bin .sub (.cst (.int 9)) (.bin .pow (.cst (.int 10)) (.cst (.int 12))))
theorem fc_loop {s0 s1 s2 s3 s5 s6 s7 s8 s9 : Sl} : ∀ (cs acc : List P), acc.length + cs.length < sizeLine → ∃ l : List P,
    compL false [4] [4] (some (evE C11 fcE)) (evE C11 (.var 4)) (cs.map pD) [s0, s1, s2, s3, .no, s5, s6, s7, s8, s9] (acc.map pD) = .ok (l.map pD) [s0, s1, s2, s3, .no, s5, s6, s7, s8, s9]
  | [], acc, hz => ⟨acc, by simp [compL]⟩
  | c :: cs, acc, hz => by
    simp only [List.length_cons] at hz
    have hb : bindT false [4] (pD c) [s0, s1, s2, s3, .no, s5, s6, s7, s8, s9] = some [s0, s1, s2, s3, .im (pD c), s5, s6, s7, s8, s9] := by simp [bindT]
    have hc : evE C11 fcE [s0, s1, s2, s3, .im (pD c), s5, s6, s7, s8, s9] = .ok (bB (decide (c.1 < 9 - 1000000000000))) [s0, s1, s2, s3, .im (pD c), s5, s6, s7, s8, s9] := by
      simp [fcE, evE, ev2, Oc.bind, Rv.seen, kIx_p0, p12, kB_sub, k2, look, evC_lt_i, bB]
    have hv : evE C11 (.var 4) [s0, s1, s2, s3, .im (pD c), s5, s6, s7, s8, s9] = .ok (.im (pD c)) [s0, s1, s2, s3, .im (pD c), s5, s6, s7, s8, s9] := by simp [evE]
    have hn : noOwn [s0, s1, s2, s3, .im (pD c), s5, s6, s7, s8, s9] [4] = true := by simp [noOwn]
    have hw : wipeD [s0, s1, s2, s3, .im (pD c), s5, s6, s7, s8, s9] [4] = [s0, s1, s2, s3, .no, s5, s6, s7, s8, s9] := by simp [wipeD]
    have ha : acc.length < sizeLine := by omega
    by_cases hlt : c.1 < 9 - 1000000000000
    · obtain ⟨l, h⟩ := fc_loop (s0 := s0) (s1 := s1) (s2 := s2) (s3 := s3) (s5 := s5) (s6 := s6) (s7 := s7) (s8 := s8) (s9 := s9) cs (acc ++ [c]) (by simp only [List.length_append, List.length_cons, List.length_nil]; omega)
      refine ⟨l, ?_⟩
      rw [decide_eq_true hlt] at hc
      simp only [List.map_cons, compL, hb, hc, bB, hv, froz, List.length_map, ha, hn, hw, decide_true, Bool.and_self, if_true]
      rw [List.map_append] at h
      exact h
    · obtain ⟨l, h⟩ := fc_loop (s0 := s0) (s1 := s1) (s2 := s2) (s3 := s3) (s5 := s5) (s6 := s6) (s7 := s7) (s8 := s8) (s9 := s9) cs acc (by omega)
      refine ⟨l, ?_⟩
      rw [decide_eq_false hlt] at hc
      simp only [List.map_cons, compL, hb, hc, bB, hn, hw, if_true]
      exact h
theorem farC_ev {cs : List P} (hz : cs.length < 10000) {n : Int} {s0 s1 s4 s5 s6 s7 s8 s9 : Sl} (h4 : isOw s4 = false) :
    ∃ q : Bool, evE C11 farC [s0, s1, .im (.tup (cs.map pD)), .im (.int n), s4, s5, s6, s7, s8, s9] = .ok (bB q) [s0, s1, .im (.tup (cs.map pD)), .im (.int n), s4, s5, s6, s7, s8, s9] := by
  have hs : sizeLine = 16777216 := sizeLine_eq
  have f2 : ∀ δ, kBin .mod (.im (.int n)) (.im (.int 4)) δ = .ok (.im (.int (n % 4))) δ := fun δ => kB_mod (by omega)
  obtain ⟨l, hl⟩ := fc_loop (s0 := s0) (s1 := s1) (s2 := .im (.tup (cs.map pD))) (s3 := .im (.int n)) (s5 := s5) (s6 := s6) (s7 := s7) (s8 := s8) (s9 := s9) cs [] (by simp only [List.length_nil]; omega)
  have hn : noOwn [s0, s1, .im (.tup (cs.map pD)), .im (.int n), s4, s5, s6, s7, s8, s9] [4] = true := by
    cases s4 <;> simp_all [noOwn, isOw]
  have hw : wipeD [s0, s1, .im (.tup (cs.map pD)), .im (.int n), s4, s5, s6, s7, s8, s9] [4] = [s0, s1, .im (.tup (cs.map pD)), .im (.int n), .no, s5, s6, s7, s8, s9] := by simp [wipeD]
  have hre : restore [s0, s1, .im (.tup (cs.map pD)), .im (.int n), s4, s5, s6, s7, s8, s9] [s0, s1, .im (.tup (cs.map pD)), .im (.int n), .no, s5, s6, s7, s8, s9] [4] = [s0, s1, .im (.tup (cs.map pD)), .im (.int n), s4, s5, s6, s7, s8, s9] := by simp [restore]
  have hcmp : evE C11 (.comp [4] .each (.cons (.var 2) .nil) [4] true fcE (.var 4)) [s0, s1, .im (.tup (cs.map pD)), .im (.int n), s4, s5, s6, s7, s8, s9] = .ok (.fr (.lst (l.map pD))) [s0, s1, .im (.tup (cs.map pD)), .im (.int n), s4, s5, s6, s7, s8, s9] := by
    have he : evL C11 (.cons (.var 2) .nil) [s0, s1, .im (.tup (cs.map pD)), .im (.int n), s4, s5, s6, s7, s8, s9] = .ok [.im (.tup (cs.map pD))] [s0, s1, .im (.tup (cs.map pD)), .im (.int n), s4, s5, s6, s7, s8, s9] := by
      simp [evL, evE, Oc.bind, froz]
    rw [evE, he]
    have hl' := hl
    simp only [List.map_nil] at hl'
    have e1 : (!noOwn [s0, s1, .im (.tup (cs.map pD)), .im (.int n), s4, s5, s6, s7, s8, s9] [4] || (C11.lt && [4].contains 0) || !([4] : List Nat).all ([4] : List Nat).contains) = false := by rw [hn]; rfl
    simp only [Oc.bind, looks, look, srcD, lends, e1, hw, if_true]
    have hl'' : compL C11.lt [4] [4] (some (evE C11 fcE)) (evE C11 (.var 4)) (cs.map pD) _ [] = _ := hl'
    simp only [hl'', hre]
    rfl
  have heq : ∃ q : Bool, evC .eq (.lst (l.map pD)) (.lst []) = some (.bl q) := by
    refine ⟨deq (.lst (l.map pD)) (.lst []), ?_⟩
    have := eqOk_cs l
    have h2 : eqOk (.lst []) = true := rfl
    simp only [evC, this, h2, Bool.and_self, if_true]
  obtain ⟨q, hq⟩ := heq
  have hem : (0 : Nat) ≤ sizeLine := by omega
  have hfar : farC = .and (.cmp .eq (.bin .mod (.var 3) (.cst (.int 4))) (.cst (.int 1))) (.cmp .eq (.comp [4] .each (.cons (.var 2) .nil) [4] true fcE (.var 4)) (.lst .nil)) := rfl
  rw [hfar]
  generalize hcm : (ME.comp [4] .each (.cons (.var 2) .nil) [4] true fcE (.var 4)) = cm at hcmp ⊢
  by_cases hm : n % 4 = 1
  · refine ⟨q, ?_⟩
    simp [evE, evL, ev2, Oc.bind, Rv.seen, f2, k2, look, evC_eq_i, hm, hcmp, ims, hem, hq, bB]
  · refine ⟨false, ?_⟩
    simp [evE, evL, ev2, Oc.bind, Rv.seen, f2, k2, look, evC_eq_i, hm, bB]
theorem farT_ev {cs : List P} (hz : cs.length < 10000) {n : Int} {s0 s1 s4 s5 s6 s7 s8 s9 : Sl} :
    ∃ (cs' : List P) (s5' : Sl), evS C11 farT [s0, s1, .im (.tup (cs.map pD)), .im (.int n), s4, s5, s6, s7, s8, s9] = .nx [s0, s1, .im (.tup (cs'.map pD)), .im (.int n), s4, s5', s6, s7, s8, s9] ∧ dsort (cs'.map pD) = cs'.map pD ∧ cs'.length < 10002 := by
  have hs : sizeLine = 16777216 := sizeLine_eq
  have f2 : ∀ δ, kBin .mod (.im (.int n)) (.im (.int 1000000)) δ = .ok (.im (.int (n % 1000000))) δ := fun δ => kB_mod (by omega)
  have hsz : (2 : Nat) ≤ sizeLine := by omega
  let F : List P := [(3 - 1000000000000, 1000000000000 - 5), (5 - 1000000000000, n % 1000000 + 50 - 1000000000000)]
  obtain ⟨cs', e, e2, e3⟩ := srt_cells (cs ++ F)
  have hadd : kBin .add (.im (.lst (cs.map pD))) (.pk 5) [s0, s1, .im (.tup (cs.map pD)), .im (.int n), s4, .ow (.lst (F.map pD)), s6, s7, s8, s9] = .ok (.fr (.lst ((cs ++ F).map pD))) [s0, s1, .im (.tup (cs.map pD)), .im (.int n), s4, .ow (.lst (F.map pD)), s6, s7, s8, s9] := by
    have : cs.length + 2 ≤ sizeLine := by omega
    simp [kBin, kAdd, look, F, this]
  have hso : evB1 .sorted [.lst ((cs ++ F).map pD)] = some (.fr (.lst (cs'.map pD))) := by rw [sorted_pD, e]
  have h1 : evS C11 (.asg 5 (.lst (.cons (.tup (.cons (.bin .sub (.cst (.int 3)) (.bin .pow (.cst (.int 10)) (.cst (.int 12)))) (.cons (.bin .sub (.bin .pow (.cst (.int 10)) (.cst (.int 12))) (.cst (.int 5))) .nil))) (.cons (.tup (.cons (.bin .sub (.cst (.int 5)) (.bin .pow (.cst (.int 10)) (.cst (.int 12)))) (.cons (.bin .sub (.bin .add (.bin .mod (.var 3) (.bin .pow (.cst (.int 10)) (.cst (.int 6)))) (.cst (.int 50))) (.bin .pow (.cst (.int 10)) (.cst (.int 12)))) .nil))) .nil)))) [s0, s1, .im (.tup (cs.map pD)), .im (.int n), s4, s5, s6, s7, s8, s9] = .nx [s0, s1, .im (.tup (cs.map pD)), .im (.int n), s4, .ow (.lst (F.map pD)), s6, s7, s8, s9] := by
    simp [evS, evE, evL, ev2, Oc.bind, Oc.toFl, Rv.seen, froz, ims, hsz, p12, p6, f2, kB_sub, kB_add, stor, F, pD]
  refine ⟨cs', .ow (.lst (F.map pD)), ?_, e2, by rw [e3]; simp [F]; omega⟩
  unfold farT
  rw [evS, h1]
  generalize F.map pD = Fm at *
  generalize (cs ++ F).map pD = G at *
  have hli : ∀ ds : List D, evB1 .list [.tup ds] = some (.fr (.lst ds)) := fun _ => rfl
  have htu : ∀ ds : List D, evB1 .tuple [.lst ds] = some (.im (.tup ds)) := fun _ => rfl
  simp [evS, evE, evL, ev2, Oc.bind, Oc.toFl, Rv.seen, look, looks, froz, hli, htu, hadd, hso, stor]
theorem lawB_ev (c : Int) {s0 s2 s3 s4 s5 s6 s7 s8 s9 : Sl} (h4 : isOw s4 = false) :
    ∃ t2 t3 t4 t5 t6 t7 t8 t9, evS C11 lawB [s0, .im (.int c), s2, s3, s4, s5, s6, s7, s8, s9] = .nx [s0, .im (.int c), t2, t3, t4, t5, t6, t7, t8, t9] ∧ isOw t4 = false := by
  obtain ⟨n, hn, hd⟩ := deal_ev (k := 10) c
  obtain ⟨cs, n', hb, hn', hso, hz⟩ := board_ev (k := 9) n hn
  obtain ⟨q, hq⟩ := farC_ev (cs := cs) hz (n := n') (s0 := s0) (s1 := .im (.int c)) (s4 := s4) (s5 := s5) (s6 := s6) (s7 := s7) (s8 := s8) (s9 := s9) h4
  have h1 : evS C11 (.unp [2, 3] (.call 10 (.cons (.call 7 (.cons (.var 1) (.cons (.cst (.int 1)) .nil))) .nil))) [s0, .im (.int c), s2, s3, s4, s5, s6, s7, s8, s9] = .nx [s0, .im (.int c), .im (.tup (cs.map pD)), .im (.int n'), s4, s5, s6, s7, s8, s9] := by
    simp [evS, evE, evL, Oc.bind, Oc.toFl, look, looks, lends, froz, hd, hb, bindT, EL.bindM, setAll]
  unfold lawB
  rw [evS, h1]
  simp only
  cases q with
  | false =>
    obtain ⟨t4, t6, t7, t8, t9, e, h⟩ := lawE_ev (cs := cs) (by omega) hso (s0 := s0) (s1 := .im (.int c)) (s3 := .im (.int n')) (s4 := s4) (s5 := s5) (s6 := s6) (s7 := s7) (s8 := s8) (s9 := s9) h4
    refine ⟨.im (.tup (cs.map pD)), .im (.int n'), t4, s5, t6, t7, t8, t9, ?_, h⟩
    rw [evS, evS, hq]
    simp only [Oc.toFl, bB, evS]
    exact e
  | true =>
    obtain ⟨cs', s5', e0, hso', hz'⟩ := farT_ev (cs := cs) hz (n := n') (s0 := s0) (s1 := .im (.int c)) (s4 := s4) (s5 := s5) (s6 := s6) (s7 := s7) (s8 := s8) (s9 := s9)
    obtain ⟨t4, t6, t7, t8, t9, e, h⟩ := lawE_ev (cs := cs') (by omega) hso' (s0 := s0) (s1 := .im (.int c)) (s3 := .im (.int n')) (s4 := s4) (s5 := s5') (s6 := s6) (s7 := s7) (s8 := s8) (s9 := s9) h4
    refine ⟨.im (.tup (cs'.map pD)), .im (.int n'), t4, s5', t6, t7, t8, t9, ?_, h⟩
    rw [evS, evS, hq]
    simp only [Oc.toFl, bB, e0]
    exact e
theorem pure (ns : List Int) (h : ns.length ≤ 63) (hb : ∀ z ∈ ns, PySem.Builtin.Int.intBits z ≤ 1048576) : ∃ l, callD 1000000000 glob text.fs 12 13 [.im (.lst (ns.map D.int))] = .ret (.im (.bl true)) l := by
  have hs : sizeLine = 16777216 := sizeLine_eq
  refine ⟨.non, ?_⟩
  rw [callD_at fs_law rfl rfl]
  show endF false (evS C11 b_law [.im (.lst (ns.map D.int)), .no, .no, .no, .no, .no, .no, .no, .no, .no]) = _
  have hc := cell_ev (k := 10) ns
  obtain ⟨δ', e, _, t1, t2, t3, t4, t5, t6, t7, t8, t9, rfl, q⟩ := forL_inv (lt := false) (tg := [1]) (b := evS C11 lawB)
    (fun ds δ => (∀ d ∈ ds, ∃ j : Int, d = .int j) ∧ ∃ s1 s2 s3 s4 s5 s6 s7 s8 s9, δ = [.im (.lst (ns.map D.int)), s1, s2, s3, s4, s5, s6, s7, s8, s9] ∧ isOw s4 = false)
    (D.int (ns.headD 0) :: EL.cutD (ns.map D.int) (some 1) (some 7)) [.im (.lst (ns.map D.int)), .no, .no, .no, .no, .no, .no, .no, .no, .no] ⟨fun d hd => by
      rcases List.mem_cons.mp hd with rfl | hd
      · exact ⟨_, rfl⟩
      · obtain ⟨j, _, rfl⟩ := List.mem_map.mp (List.mem_of_mem_drop (List.mem_of_mem_take hd))
        exact ⟨j, rfl⟩, _, _, _, _, _, _, _, _, _, rfl, rfl⟩ (by
      rintro d ds δ ⟨hi, s1, s2, s3, s4, s5, s6, s7, s8, s9, rfl, q⟩
      obtain ⟨j, rfl⟩ := hi d List.mem_cons_self
      obtain ⟨t2, t3, t4, t5, t6, t7, t8, t9, e, q2⟩ := lawB_ev j (s0 := .im (.lst (ns.map D.int))) (s2 := s2) (s3 := s3) (s4 := s4) (s5 := s5) (s6 := s6) (s7 := s7) (s8 := s8) (s9 := s9) q
      exact ⟨_, _, by simp [bindT], e, fun d hd => hi d (List.mem_cons_of_mem _ hd), _, _, _, _, _, _, _, _, _, rfl, q2⟩)
  have h1 : (1 : Nat) ≤ sizeLine := by omega
  have hcl : (EL.cutD (ns.map D.int) (some 1) (some 7)).length ≤ 63 := by
    unfold EL.cutD
    rw [List.length_take, List.length_drop, List.length_map]
    omega
  have hsz : 1 + (EL.cutD (ns.map D.int) (some 1) (some 7)).length ≤ sizeLine := by omega
  generalize ns.headD 0 = h0 at *
  rw [law_eq]
  generalize hlb : lawB = lb at e
  have hcut : ∀ δ, kCut (some 1) (some 7) (.im (.lst (ns.map D.int))) δ = .ok (.fr (.lst (EL.cutD (ns.map D.int) (some 1) (some 7)))) δ := fun δ => rfl
  generalize EL.cutD (ns.map D.int) (some 1) (some 7) = cu at *
  simp [evS, evE, evL, ev2, Oc.bind, Oc.toFl, Rv.seen, look, looks, lends, froz, ims, hc, h1, part?, hcut, kBin, kAdd, hsz, srcD, e, bI, bB]
  simp [endF]
end K68

set_option Elab.async false
set_option linter.all false
set_option maxRecDepth 100000
set_option maxHeartbeats 4000000
open PySem PySem.W PyProof.Rows
set_option maxRecDepth 100000 in
set_option maxHeartbeats 0 in
theorem PySem.Challenge.cw_edgewide_k68_parts_told_holds : PySem.Challenge.rw_edgewide_k68_parts_told.Holds := by
  w_on; o_law; k_head; (case hw => w_witness2)
  k_fill
  refine EL.walk_law (l := PySem.Challenge.rw_edgewide_k68_parts_told) (k := 13) (x := "script") rfl rfl ⟨rfl, by decide, by decide⟩ (fun w h Y => PySem.W.kIn_of Y) ?F
  case F =>
    intro w mg fa h KX G hmg
    refine' EL.law_fn K68.ok (K68.facts KX G ?a0 ?l0 ?c0 ?q0 ?a1 ?l1 ?c1 ?q1 ?a2 ?l2 ?c2 ?q2 ?a3 ?l3 ?c3 ?q3 ?a4 ?l4 ?c4 ?q4 ?a5 ?l5 ?c5 ?q5 ?a6 ?l6 ?c6 ?q6 ?a7 ?l7 ?c7 ?q7 ?a8 ?l8 ?c8 ?q8 ?a9 ?l9 ?c9 ?q9 ?a10 ?l10 ?c10 ?q10 ?a11 ?l11 ?c11 ?q11 ?a12 ?l12 ?c12 ?q12 ?a13 ?l13 ?c13 ?q13 ?ca1 ?cx1 ?ck1 ?cb1 ?ct_1 ?ca2 ?cx2 ?ck2 ?cb2 ?ct_2 ?ga0 ?tl0 ?tl0_7 ?tl0_6 ?tl0_5 ?tl0_4 ?tl0_3 ?tl0_2 ?tl0_1 ?tl0_0 ?n0 ?n1 ?n2 ?n3 ?n4 ?n5 ?n6 ?n7 ?n8 ?n9 ?n10 ?n11 ?n12 ?n13) (f := 13) (d := K68.d_law) (fuel := 1000000000) rfl (by decide +kernel) hmg 12 K68.pure
    (case a0 => k_is)
    (case l0 => k_is)
    (case c0 => k_is)
    (case q0 => k_is)
    (case a1 => k_is)
    (case l1 => k_is)
    (case c1 => k_is)
    (case q1 => k_is)
    (case a2 => k_is)
    (case l2 => k_is)
    (case c2 => k_is)
    (case q2 => k_is)
    (case a3 => k_is)
    (case l3 => k_is)
    (case c3 => k_is)
    (case q3 => k_is)
    (case a4 => k_is)
    (case l4 => k_is)
    (case c4 => k_is)
    (case q4 => k_is)
    (case a5 => k_is)
    (case l5 => k_is)
    (case c5 => k_is)
    (case q5 => k_is)
    (case a6 => k_is)
    (case l6 => k_is)
    (case c6 => k_is)
    (case q6 => k_is)
    (case a7 => k_is)
    (case l7 => k_is)
    (case c7 => k_is)
    (case q7 => k_is)
    (case a8 => k_is)
    (case l8 => k_is)
    (case c8 => k_is)
    (case q8 => k_is)
    (case a9 => k_is)
    (case l9 => k_is)
    (case c9 => k_is)
    (case q9 => k_is)
    (case a10 => k_is)
    (case l10 => k_is)
    (case c10 => k_is)
    (case q10 => k_is)
    (case a11 => k_is)
    (case l11 => k_is)
    (case c11 => k_is)
    (case q11 => k_is)
    (case a12 => k_is)
    (case l12 => k_is)
    (case c12 => k_is)
    (case q12 => k_is)
    (case a13 => k_is)
    (case l13 => k_is)
    (case c13 => k_is)
    (case q13 => k_is)
    (case ca1 => k_is)
    (case cx1 => k_exc)
    (case ck1 => k_is)
    (case cb1 => k_is)
    (case ct_1 => k_is)
    (case ca2 => k_is)
    (case cx2 => k_exc)
    (case ck2 => k_is)
    (case cb2 => k_is)
    (case ct_2 => k_is)
    (case ga0 => k_is)
    (case tl0 => k_is)
    (case tl0_7 => k_is)
    (case tl0_6 => k_is)
    (case tl0_5 => k_is)
    (case tl0_4 => k_is)
    (case tl0_3 => k_is)
    (case tl0_2 => k_is)
    (case tl0_1 => k_is)
    (case tl0_0 => k_is)
    (case n0 => k_is)
    (case n1 => k_is)
    (case n2 => k_is)
    (case n3 => k_is)
    (case n4 => k_is)
    (case n5 => k_is)
    (case n6 => k_is)
    (case n7 => k_is)
    (case n8 => k_is)
    (case n9 => k_is)
    (case n10 => k_is)
    (case n11 => k_is)
    (case n12 => k_is)
    (case n13 => k_is)
#print axioms PySem.Challenge.cw_edgewide_k68_parts_told_holds

