import PyProof.Rows.All
import HandS.ExcField
import Wide.All
import OpenK.AllK
import Wide.FinOn
import HandS.ForMost
import HandS.Sort
import HandS.Text
import KE.DataMinMax
import HandS.Exc
import HandS.WordsExc
import HandS.CallSlots
import HandS.Flow
import HandS.TupAny
import HandS.Style
import HandS.TupMul
import HandS.Deep
import HandS.Dict
import PyProof.Rows.InDataRows
import HandS.IsInst
import HandS.SortInts
import HandS.TupSets
import KE.KTupSum
import HandS.SetFor
import HandS.Strs
import HandS.Zip
import HandS.Iter
import HandS.Comp
import KE.GoesMore
import PyProof.SeqIndex
import HandS.Conv
import HandS.TryMany
import HandS.DictComp
import HandS.SetBool
import HandS.ExcInit
import HandS.ExcSuper
import KE.KExcSuper
import HandS.Defaults
import HandS.Ends
import HandS.HeadEnd
import HandS.Head0
import HandS.Head1
import HandS.Head2
import HandS.HeadHook1
import HandS.HeadHook2
import PySem.Challenge.RW_neverboth_k46_whole_alternations_wires_a
section
set_option Elab.async false
set_option linter.all false
set_option maxRecDepth 100000
/-! NbA: plain data, how it lies in the abstract heap, growth -/
namespace Nb
open PySem PySem.Spec PyProof.Rows L2

inductive D where
  | non | bl (b : Bool) | int (i : Int) | str (x : Str)
  | tup (xs : List D) | lst (xs : List D)
  | ctup (xs : List D)   -- a tuple that may be one of the module's
  | dk (ks : List Key) (vs : List D) | dt (ks : List (List Key)) (vs : List D)
  | ins (c : Str) (fs : List Str) (vs : List D)
  | ref (n : Nat)
  | clst (xs : List D)   -- a list that nobody writes: the script

/-- an object that is shared by reference -/
inductive O where
  | lst (ds : List D)

abbrev Sto := List O
inductive Sl where
  | no | va (d : D) | ow (d : D) | er (c : Str) (fs : List (Str × D))
abbrev Enw := List Sl

inductive Res (α : Type) where
  | ok (a : α) (st : Sto)
  | exc (c : Str) (fs : List (Str × D)) (st : Sto)
  | bad

def Res.bind {α β : Type} (r : Res α) (f : α → Sto → Res β) : Res β := match r with
  | .ok a st => f a st
  | .exc c fs st => .exc c fs st
  | .bad => .bad

/-- the address of the module's class x -/
def gAt (K : PySem.W.Frag) (x : Str) : Addr := match PySem.W.nsIn K mainGlobals x with
  | some (some (.ref a)) => a
  | _ => 0

mutual
def Rel (K : PySem.W.Frag) (F : Hp) (R : List Addr) : D → V → Prop
  | .non, v => v = .non
  | .bl b, v => v = .bl b
  | .int i, v => v = .int i
  | .str x, v => v = .str x
  | .tup ds, v => ∃ a vs, v = .ref a ∧ F a = some (.tup vs) ∧ Rels K F R ds vs
  | .ctup ds, v => ∃ a vs, v = .ref a ∧ SqT K F a vs ∧ Rels K F R ds vs
  | .lst ds, v => ∃ a vs, v = .ref a ∧ F a = some (.lst vs) ∧ Rels K F R ds vs
  | .dk ks ds, v => ∃ a vs, v = .ref a ∧ F a = some (.dK (ks.zip vs)) ∧ ks.length = ds.length ∧ Rels K F R ds vs
  | .dt ks ds, v => ∃ a vs, v = .ref a ∧ F a = some (.dT (ks.zip vs)) ∧ ks.length = ds.length ∧ Rels K F R ds vs
  | .ins c fs ds, v => ∃ a dx vs, v = .ref a ∧ F a = some (.ins (gAt K c) dx (fs.zip vs)) ∧ fs.length = ds.length ∧ Rels K F R ds vs
  | .ref n, v => ∃ a, R[n]? = some a ∧ v = .ref a
  | .clst ds, v => ∃ a vs, v = .ref a ∧ SqL K F a vs ∧ Rels K F R ds vs
def Rels (K : PySem.W.Frag) (F : Hp) (R : List Addr) : List D → List V → Prop
  | [], vs => vs = []
  | d :: ds, vs => ∃ v ws, vs = v :: ws ∧ Rel K F R d v ∧ Rels K F R ds ws
end

section
variable {K : PySem.W.Frag} {F F' H H' : Hp} {R R' : List Addr}
theorem sqT_same {a : Addr} {xs : List V} (e : Same F F') (h : SqT K F a xs) : SqT K F' a xs := by
  rcases h with (h | ⟨o, h⟩) | h
  · exact .inl (.inl (e _ _ h))
  · exact .inl (.inr ⟨o, e _ _ h⟩)
  · exact .inr h
theorem sqL_same {a : Addr} {xs : List V} (e : Same F F') (h : SqL K F a xs) : SqL K F' a xs := by
  rcases h with (h | ⟨o, h⟩) | h
  · exact .inl (.inl (e _ _ h))
  · exact .inl (.inr ⟨o, e _ _ h⟩)
  · exact .inr h
theorem pre_get {n : Nat} {a : Addr} (p : R <+: R') (h : R[n]? = some a) : R'[n]? = some a := by
  obtain ⟨t, rfl⟩ := p
  obtain ⟨hn, _⟩ := List.getElem?_eq_some_iff.mp h
  rw [List.getElem?_append_left hn]
  exact h
mutual
theorem Rel.mono (e : Same F F') (p : R <+: R') : ∀ {d : D} {v : V}, Rel K F R d v → Rel K F' R' d v
  | .non, _, h => h
  | .bl _, _, h => h
  | .int _, _, h => h
  | .str _, _, h => h
  | .tup _, _, h => by
    unfold Rel at h ⊢
    obtain ⟨a, vs, h1, h2, h3⟩ := h
    exact ⟨a, vs, h1, e _ _ h2, Rels.mono e p h3⟩
  | .ctup _, _, h => by
    unfold Rel at h ⊢
    obtain ⟨a, vs, h1, h2, h3⟩ := h
    exact ⟨a, vs, h1, sqT_same e h2, Rels.mono e p h3⟩
  | .lst _, _, h => by
    unfold Rel at h ⊢
    obtain ⟨a, vs, h1, h2, h3⟩ := h
    exact ⟨a, vs, h1, e _ _ h2, Rels.mono e p h3⟩
  | .dk _ _, _, h => by
    unfold Rel at h ⊢
    obtain ⟨a, vs, h1, h2, h4, h3⟩ := h
    exact ⟨a, vs, h1, e _ _ h2, h4, Rels.mono e p h3⟩
  | .dt _ _, _, h => by
    unfold Rel at h ⊢
    obtain ⟨a, vs, h1, h2, h4, h3⟩ := h
    exact ⟨a, vs, h1, e _ _ h2, h4, Rels.mono e p h3⟩
  | .ins _ _ _, _, h => by
    unfold Rel at h ⊢
    obtain ⟨a, dx, vs, h1, h2, h4, h3⟩ := h
    exact ⟨a, dx, vs, h1, e _ _ h2, h4, Rels.mono e p h3⟩
  | .ref _, _, h => by
    unfold Rel at h ⊢
    obtain ⟨a, h1, h2⟩ := h
    exact ⟨a, pre_get p h1, h2⟩
  | .clst _, _, h => by
    unfold Rel at h ⊢
    obtain ⟨a, vs, h1, h2, h3⟩ := h
    exact ⟨a, vs, h1, sqL_same e h2, Rels.mono e p h3⟩
theorem Rels.mono (e : Same F F') (p : R <+: R') : ∀ {ds : List D} {vs : List V}, Rels K F R ds vs → Rels K F' R' ds vs
  | [], _, h => h
  | _ :: _, _, h => by
    unfold Rels at h ⊢
    obtain ⟨v, ws, h1, h2, h3⟩ := h
    exact ⟨v, ws, h1, Rel.mono e p h2, Rels.mono e p h3⟩
end
theorem Rels.nil : Rels K F R [] [] := by unfold Rels; rfl
theorem Rels.cons {d : D} {v : V} {ds : List D} {vs : List V} (h : Rel K F R d v) (t : Rels K F R ds vs) : Rels K F R (d :: ds) (v :: vs) := by
  unfold Rels; exact ⟨v, vs, rfl, h, t⟩
theorem Rels.len : ∀ {ds : List D} {vs : List V}, Rels K F R ds vs → ds.length = vs.length
  | [], _, h => by unfold Rels at h; subst h; rfl
  | _ :: _, _, h => by
    unfold Rels at h
    obtain ⟨v, ws, rfl, _, h3⟩ := h
    simp [Rels.len h3]
theorem Rels.get : ∀ {ds : List D} {vs : List V} {i : Nat} {d : D}, Rels K F R ds vs → ds[i]? = some d → ∃ v, vs[i]? = some v ∧ Rel K F R d v
  | [], _, _, _, _, e => by simp at e
  | d0 :: _, _, i, d, h, e => by
    unfold Rels at h
    obtain ⟨v, ws, rfl, h2, h3⟩ := h
    cases i with
    | zero => simp at e; subst e; exact ⟨v, rfl, h2⟩
    | succ i =>
      obtain ⟨w, q1, q2⟩ := Rels.get (i := i) (d := d) h3 (by simpa using e)
      exact ⟨w, by simpa using q1, q2⟩
theorem Rels.getV : ∀ {ds : List D} {vs : List V} {i : Nat} {v : V}, Rels K F R ds vs → vs[i]? = some v → ∃ d, ds[i]? = some d ∧ Rel K F R d v := fun {ds vs i v} h e => by
  have hl := h.len
  obtain ⟨hi, _⟩ := List.getElem?_eq_some_iff.mp e
  have hd : i < ds.length := by omega
  obtain ⟨w, q1, q2⟩ := h.get (i := i) (d := ds[i]) (by simp [hd])
  rw [e] at q1; cases q1
  exact ⟨_, by simp [hd], q2⟩
theorem Rels.app : ∀ {ds es : List D} {vs ws : List V}, Rels K F R ds vs → Rels K F R es ws → Rels K F R (ds ++ es) (vs ++ ws)
  | [], _, _, _, h, t => by unfold Rels at h; subst h; exact t
  | _ :: _, _, _, _, h, t => by
    unfold Rels at h
    obtain ⟨v, us, rfl, h2, h3⟩ := h
    exact Rels.cons h2 (Rels.app h3 t)
theorem Rels.one {d : D} {v : V} (h : Rel K F R d v) : Rels K F R [d] [v] := Rels.cons h Rels.nil
theorem Rels.take : ∀ {ds : List D} {vs : List V} (n : Nat), Rels K F R ds vs → Rels K F R (ds.take n) (vs.take n)
  | _, _, 0, _ => by simp only [List.take_zero]; exact Rels.nil
  | [], _, _ + 1, h => by unfold Rels at h; subst h; exact Rels.nil
  | _ :: _, _, n + 1, h => by
    unfold Rels at h
    obtain ⟨v, us, rfl, h2, h3⟩ := h
    exact Rels.cons h2 (Rels.take n h3)
theorem Rels.drop : ∀ {ds : List D} {vs : List V} (n : Nat), Rels K F R ds vs → Rels K F R (ds.drop n) (vs.drop n)
  | _, _, 0, h => h
  | [], _, _ + 1, h => by unfold Rels at h; subst h; exact Rels.nil
  | _ :: _, _, n + 1, h => by
    unfold Rels at h
    obtain ⟨v, us, rfl, h2, h3⟩ := h
    exact Rels.drop n h3
theorem Rels.set : ∀ {ds : List D} {vs : List V} {d : D} {v : V} (i : Nat), Rels K F R ds vs → Rel K F R d v → Rels K F R (ds.set i d) (vs.set i v)
  | [], _, _, _, _, h, _ => by unfold Rels at h; subst h; exact Rels.nil
  | _ :: _, _, _, _, 0, h, q => by
    unfold Rels at h
    obtain ⟨v, us, rfl, h2, h3⟩ := h
    exact Rels.cons q h3
  | _ :: _, _, _, _, i + 1, h, q => by
    unfold Rels at h
    obtain ⟨v, us, rfl, h2, h3⟩ := h
    exact Rels.cons h2 (Rels.set i h3 q)
theorem Rels.rev : ∀ {ds : List D} {vs : List V}, Rels K F R ds vs → Rels K F R ds.reverse vs.reverse
  | [], _, h => by unfold Rels at h; subst h; exact Rels.nil
  | _ :: _, _, h => by
    unfold Rels at h
    obtain ⟨v, us, rfl, h2, h3⟩ := h
    rw [List.reverse_cons, List.reverse_cons]
    exact Rels.app (Rels.rev h3) (Rels.one h2)
end

/-- how an object that only a slot knows lies at a -/
def OwnR (K : PySem.W.Frag) (F : Hp) (R : List Addr) (H : Hp) (a : Addr) : D → Prop
  | .lst ds => ∃ vs, H a = some (.lst vs) ∧ Rels K F R ds vs
  | .dk ks ds => ∃ vs, H a = some (.dK (ks.zip vs)) ∧ ks.length = ds.length ∧ Rels K F R ds vs
  | .dt ks ds => ∃ vs, H a = some (.dT (ks.zip vs)) ∧ ks.length = ds.length ∧ Rels K F R ds vs
  | .ins c fs ds => ∃ dx vs, H a = some (.ins (gAt K c) dx (fs.zip vs)) ∧ fs.length = ds.length ∧ Rels K F R ds vs
  | _ => False
def ORel (K : PySem.W.Frag) (F : Hp) (R : List Addr) (H : Hp) (a : Addr) : O → Prop
  | .lst ds => ∃ vs, H a = some (.lst vs) ∧ Rels K F R ds vs

/-- the store lies at R -/
structure StOk (K : PySem.W.Frag) (F : Hp) (R : List Addr) (H : Hp) (st : Sto) : Prop where
  same : Same F H
  len : R.length = st.length
  nd : R.Nodup
  free : ∀ a ∈ R, F a = none
  obj : ∀ (n : Nat) o a, st[n]? = some o → R[n]? = some a → ORel K F R H a o

/-- what an error keeps, d its own dict -/
def XFs (K : PySem.W.Frag) (F : Hp) (R : List Addr) (H : Hp) (fs : List (Str × D)) (d : Option Addr) : Prop :=
  fs = [] ∨ ∃ dd vs, d = some dd ∧ dd ∉ R ∧ H dd = some (.xd ((fs.map (·.1)).zip vs)) ∧ Rels K F R (fs.map (·.2)) vs
/-- the caught error that is known: where it lies, its class, its dict -/
abbrev EXT := Addr → Value → Option Addr → Prop
/-- a slot's value -/
def SlOk (K : PySem.W.Frag) (EX : EXT) (F : Hp) (R : List Addr) (H : Hp) : Sl → Option V → Prop
  | .no, _ => True
  | .va d, o => ∃ v, o = some v ∧ Rel K F R d v
  | .ow d, o => ∃ a, o = some (.ref a) ∧ F a = none ∧ a ∉ R ∧ OwnR K F R H a d
  | .er c fs, o => ∃ a d, o = some (.ref a) ∧ EX a (.ref (gAt K c)) d ∧ XFs K F R H fs d
structure EnvOk (K : PySem.W.Frag) (EX : EXT) (F : Hp) (R : List Addr) (H : Hp) (env : Enw) (σ : L2.St) : Prop where
  len : env.length = σ.length
  sl : ∀ (i : Nat) s o, env[i]? = some s → σ[i]? = some o → SlOk K EX F R H s o
  sep : ∀ (i j : Nat) (a : Addr) d e, env[i]? = some (.ow d) → env[j]? = some (.ow e) → σ[i]? = some (some (.ref a)) → σ[j]? = some (some (.ref a)) → i = j

/-- what an evaluation leaves of the heap -/
structure Grow (F : Hp) (R : List Addr) (H F' : Hp) (R' : List Addr) (H' : Hp) : Prop where
  sameF : Same F F'
  pre : R <+: R'
  keep : ∀ a o, H a = some o → a ∉ R → H' a = some o
  back : ∀ a, H' a = none → H a = none
  newF : ∀ a, F a = none → F' a ≠ none → H a = none
  newR : ∀ a ∈ R', a ∉ R → H a = none

section
variable {K : PySem.W.Frag} {F F' F'' H H' H'' : Hp} {R R' R'' : List Addr} {st st' : Sto} {env : Enw} {σ : L2.St}
theorem Grow.refl : Grow F R H F R H := ⟨Same.refl _, List.prefix_rfl, fun _ _ h _ => h, fun _ h => h, fun _ h1 h2 => absurd h1 h2, fun _ h1 h2 => absurd h1 h2⟩
theorem Grow.trans (a : Grow F R H F' R' H') (b : Grow F' R' H' F'' R'' H'') : Grow F R H F'' R'' H'' where
  sameF := a.sameF.trans b.sameF
  pre := a.pre.trans b.pre
  keep := fun x o h n => by
    by_cases hr : x ∈ R'
    · have := a.newR x hr n
      rw [h] at this; cases this
    · exact b.keep x o (a.keep x o h n) hr
  back := fun x h => a.back x (b.back x h)
  newF := fun x h1 h2 => by
    cases e : F' x with
    | some o => exact a.newF x h1 (by rw [e]; simp)
    | none => exact a.back x (b.newF x e h2)
  newR := fun x h1 h2 => by
    by_cases hr : x ∈ R'
    · exact a.newR x hr h2
    · exact a.back x (b.newR x h1 hr)
theorem OwnR.ex {a : Addr} {d : D} (h : OwnR K F R H a d) : ∃ o, H a = some o := by
  cases d <;> first | exact h.elim | (obtain ⟨vs, h1, _⟩ := h; exact ⟨_, h1⟩) | (obtain ⟨dx, vs, h1, _⟩ := h; exact ⟨_, h1⟩)
theorem ORel.ex {a : Addr} {o : O} (h : ORel K F R H a o) : ∃ o, H a = some o := by
  cases o with
  | lst ds => obtain ⟨vs, h1, _⟩ := h; exact ⟨_, h1⟩
theorem OwnR.mono {a : Addr} {d : D} (e : Same F F') (p : R <+: R') (hk : ∀ o, H a = some o → H' a = some o) (h : OwnR K F R H a d) : OwnR K F' R' H' a d := by
  cases d with
  | lst ds => obtain ⟨vs, h1, h2⟩ := h; exact ⟨vs, hk _ h1, h2.mono e p⟩
  | dk ks ds => obtain ⟨vs, h1, h3, h2⟩ := h; exact ⟨vs, hk _ h1, h3, h2.mono e p⟩
  | dt ks ds => obtain ⟨vs, h1, h3, h2⟩ := h; exact ⟨vs, hk _ h1, h3, h2.mono e p⟩
  | ins c fs ds => obtain ⟨dx, vs, h1, h3, h2⟩ := h; exact ⟨dx, vs, hk _ h1, h3, h2.mono e p⟩
  | _ => exact h.elim
theorem ORel.mono {a : Addr} {o : O} (e : Same F F') (p : R <+: R') (hk : ∀ o, H a = some o → H' a = some o) (h : ORel K F R H a o) : ORel K F' R' H' a o := by
  cases o with
  | lst ds => obtain ⟨vs, h1, h2⟩ := h; exact ⟨vs, hk _ h1, h2.mono e p⟩
theorem XFs.grow {fs : List (Str × D)} {d : Option Addr} (g : Grow F R H F' R' H') (h : XFs K F R H fs d) : XFs K F' R' H' fs d := by
  rcases h with h | ⟨dd, vs, e, n, hd, r⟩
  · exact .inl h
  · refine .inr ⟨dd, vs, e, fun hr => ?_, g.keep _ _ hd n, r.mono g.sameF g.pre⟩
    have := g.newR dd hr n
    rw [hd] at this; cases this
theorem SlOk.grow {EX : EXT} {s : Sl} {o : Option V} (g : Grow F R H F' R' H') (h : SlOk K EX F R H s o) : SlOk K EX F' R' H' s o := by
  cases s with
  | no => trivial
  | va d => obtain ⟨v, e, r⟩ := h; exact ⟨v, e, r.mono g.sameF g.pre⟩
  | er c fs => obtain ⟨a, d, e, x, r⟩ := h; exact ⟨a, d, e, x, r.grow g⟩
  | ow d =>
    obtain ⟨a, e, f, n, r⟩ := h
    obtain ⟨u, hu⟩ := r.ex
    refine ⟨a, e, ?_, fun hr => ?_, r.mono g.sameF g.pre fun o ho => g.keep a o ho n⟩
    · cases q : F' a with
      | none => rfl
      | some x => have := g.newF a f (by rw [q]; simp); rw [hu] at this; cases this
    · have := g.newR a hr n
      rw [hu] at this; cases this
theorem EnvOk.grow {EX : EXT} (h : EnvOk K EX F R H env σ) (g : Grow F R H F' R' H') : EnvOk K EX F' R' H' env σ := ⟨h.len, fun i s o h1 h2 => (h.sl i s o h1 h2).grow g, h.sep⟩
theorem StOk.at_some (h : StOk K F R H st) {n : Nat} {a : Addr} (hr : R[n]? = some a) : ∃ o, st[n]? = some o := by
  obtain ⟨hn, _⟩ := List.getElem?_eq_some_iff.mp hr
  exact ⟨st[n]'(by rw [← h.len]; exact hn), by simp [← h.len, hn]⟩
theorem StOk.there (h : StOk K F R H st) {a : Addr} (hr : a ∈ R) : ∃ o, H a = some o := by
  obtain ⟨n, hn⟩ := List.getElem?_of_mem hr
  obtain ⟨o, ho⟩ := h.at_some hn
  exact (h.obj n o a ho hn).ex
/-- a new frozen object at a new address -/
theorem StOk.new {p : Addr} {o : HO} (h : StOk K F R H st) (hp : H p = none) : StOk K (upd F p o) R (upd H p o) st := by
  have hf : F p = none := h.same.free hp
  have hs : Same F (upd F p o) := fun b u e => by rw [upd_ne (ne_of_none e hf)]; exact e
  have nr : ∀ a ∈ R, a ≠ p := fun a ha e => by
    obtain ⟨u, hu⟩ := h.there ha
    rw [e, hp] at hu; cases hu
  refine ⟨fun b u e => ?_, h.len, h.nd, fun a ha => by rw [upd_ne (nr a ha)]; exact h.free a ha, fun n q a h1 h2 => ?_⟩
  · by_cases hb : b = p
    · subst hb; rw [upd_same] at e ⊢; exact e
    · rw [upd_ne hb] at e ⊢; exact h.same b u e
  · refine ORel.mono hs List.prefix_rfl (fun u hu => ?_) (h.obj n q a h1 h2)
    rw [upd_ne (nr a (List.mem_of_getElem? h2))]; exact hu
theorem Grow.new {p : Addr} {o : HO} (hf : Same F H) (hp : H p = none) : Grow F R H (upd F p o) R (upd H p o) where
  sameF := fun b u e => by rw [upd_ne (ne_of_none e (hf.free hp))]; exact e
  pre := List.prefix_rfl
  keep := fun a u h _ => by rw [upd_ne (ne_of_none h hp)]; exact h
  back := fun a h => by
    by_cases e : a = p
    · subst e; exact hp
    · rw [upd_ne e] at h; exact h
  newF := fun a h1 h2 => by
    by_cases e : a = p
    · subst e; exact hp
    · rw [upd_ne e] at h2; exact absurd h1 h2
  newR := fun _ h1 h2 => absurd h1 h2
/-- a new object that is not frozen -/
theorem StOk.newH {p : Addr} {o : HO} (h : StOk K F R H st) (hp : H p = none) : StOk K F R (upd H p o) st := by
  have nr : ∀ a ∈ R, a ≠ p := fun a ha e => by
    obtain ⟨u, hu⟩ := h.there ha
    rw [e, hp] at hu; cases hu
  refine ⟨fun b u e => ?_, h.len, h.nd, h.free, fun n q a h1 h2 => ?_⟩
  · rw [upd_ne (ne_of_none (h.same b u e) hp)]; exact h.same b u e
  · refine ORel.mono (Same.refl _) List.prefix_rfl (fun u hu => ?_) (h.obj n q a h1 h2)
    rw [upd_ne (nr a (List.mem_of_getElem? h2))]; exact hu
theorem Grow.newH {p : Addr} {o : HO} (hp : H p = none) : Grow F R H F R (upd H p o) where
  sameF := Same.refl _
  pre := List.prefix_rfl
  keep := fun a u h _ => by rw [upd_ne (ne_of_none h hp)]; exact h
  back := fun a h => by
    by_cases e : a = p
    · subst e; exact hp
    · rw [upd_ne e] at h; exact h
  newF := fun a h1 h2 => absurd h1 h2
  newR := fun _ h1 h2 => absurd h1 h2
/-- an object of one's own (at a) is frozen -/
theorem StOk.frz {a : Addr} {o : HO} (h : StOk K F R H st) (ha : H a = some o) (hf : F a = none) (hr : a ∉ R) : StOk K (upd F a o) R H st := by
  have hs : Same F (upd F a o) := fun b u e => by rw [upd_ne (ne_of_none e hf)]; exact e
  refine ⟨fun b u e => ?_, h.len, h.nd, fun b hb => ?_, fun n q b h1 h2 => ORel.mono hs List.prefix_rfl (fun u hu => hu) (h.obj n q b h1 h2)⟩
  · by_cases e1 : b = a
    · subst e1; rw [upd_same] at e; cases e; exact ha
    · rw [upd_ne e1] at e; exact h.same b u e
  · rw [upd_ne (fun e => hr (by rw [← e]; exact hb))]; exact h.free b hb
theorem Grow.frz {a : Addr} {o : HO} {H0 : Hp} {F0 : Hp} {R0 : List Addr} (g : Grow F0 R0 H0 F R H) (hf : F a = none) (h0 : H0 a = none) : Grow F0 R0 H0 (upd F a o) R H where
  sameF := fun b u e => by rw [upd_ne (ne_of_none (g.sameF b u e) hf)]; exact g.sameF b u e
  pre := g.pre
  keep := g.keep
  back := g.back
  newF := fun b h1 h2 => by
    by_cases e : b = a
    · subst e; exact h0
    · rw [upd_ne e] at h2; exact g.newF b h1 h2
  newR := g.newR
end

/-- a value, or an object that only a slot knows, as it stands now -/
def RelT (K : PySem.W.Frag) (F : Hp) (R : List Addr) (H : Hp) (d : D) (v : V) : Prop := Rel K F R d v ∨ ∃ a, v = .ref a ∧ F a = none ∧ a ∉ R ∧ OwnR K F R H a d
section
variable {K : PySem.W.Frag} {F F' F'' H H' H'' : Hp} {R R' R'' : List Addr} {st st' : Sto} {env : Enw} {σ : L2.St} {d : D} {v : V}
theorem Rel.t (h : Rel K F R d v) : RelT K F R H d v := .inl h
theorem RelT.grow (h : RelT K F R H d v) (g : Grow F R H F' R' H') : RelT K F' R' H' d v := by
  rcases h with h | ⟨a, e, f, n, r⟩
  · exact .inl (h.mono g.sameF g.pre)
  · have q : SlOk K (fun _ _ _ => False) F R H (.ow d) (some v) := ⟨a, by rw [e], f, n, r⟩
    obtain ⟨a', e', f', n', r'⟩ := q.grow g
    exact .inr ⟨a', Option.some.inj e', f', n', r'⟩
theorem RelT.lst {ds : List D} (s : Same F H) (h : RelT K F R H (.lst ds) v) : ∃ a vs, v = .ref a ∧ H a = some (.lst vs) ∧ Rels K F R ds vs := by
  rcases h with h | ⟨a, e, f, n, r⟩
  · unfold Rel at h
    obtain ⟨a, vs, h1, h2, h3⟩ := h
    exact ⟨a, vs, h1, s _ _ h2, h3⟩
  · obtain ⟨vs, h1, h2⟩ := r
    exact ⟨a, vs, e, h1, h2⟩
theorem RelT.tup {ds : List D} (s : Same F H) (h : RelT K F R H (.tup ds) v) : ∃ a vs, v = .ref a ∧ H a = some (.tup vs) ∧ Rels K F R ds vs := by
  rcases h with h | ⟨a, e, f, n, r⟩
  · unfold Rel at h
    obtain ⟨a, vs, h1, h2, h3⟩ := h
    exact ⟨a, vs, h1, s _ _ h2, h3⟩
  · exact r.elim
theorem RelT.ctup {ds : List D} (s : Same F H) (h : RelT K F R H (.ctup ds) v) : ∃ a vs, v = .ref a ∧ SqT K H a vs ∧ Rels K F R ds vs := by
  rcases h with h | ⟨a, e, f, n, r⟩
  · unfold Rel at h
    obtain ⟨a, vs, h1, h2, h3⟩ := h
    exact ⟨a, vs, h1, sqT_same s h2, h3⟩
  · exact r.elim
theorem RelT.clst {ds : List D} (s : Same F H) (h : RelT K F R H (.clst ds) v) : ∃ a vs, v = .ref a ∧ SqL K H a vs ∧ Rels K F R ds vs := by
  rcases h with h | ⟨a, e, f, n, r⟩
  · unfold Rel at h
    obtain ⟨a, vs, h1, h2, h3⟩ := h
    exact ⟨a, vs, h1, sqL_same s h2, h3⟩
  · exact r.elim
theorem RelT.int {i : Int} (h : RelT K F R H (.int i) v) : v = .int i := by
  rcases h with h | ⟨a, e, f, n, r⟩
  · unfold Rel at h; exact h
  · exact r.elim
theorem RelT.bl {i : Bool} (h : RelT K F R H (.bl i) v) : v = .bl i := by
  rcases h with h | ⟨a, e, f, n, r⟩
  · unfold Rel at h; exact h
  · exact r.elim
theorem RelT.str {i : Str} (h : RelT K F R H (.str i) v) : v = .str i := by
  rcases h with h | ⟨a, e, f, n, r⟩
  · unfold Rel at h; exact h
  · exact r.elim
theorem RelT.non (h : RelT K F R H .non v) : v = .non := by
  rcases h with h | ⟨a, e, f, n, r⟩
  · unfold Rel at h; exact h
  · exact r.elim
theorem RelT.ref {n : Nat} (h : RelT K F R H (.ref n) v) : ∃ a, R[n]? = some a ∧ v = .ref a := by
  rcases h with h | ⟨a, e, f, n, r⟩
  · unfold Rel at h; exact h
  · exact r.elim
end
end Nb
end
section
set_option Elab.async false
set_option linter.all false
set_option maxRecDepth 100000
/-! NbB: the small language and its evaluator over plain data -/
namespace Nb
open PySem PySem.Spec PyProof.Rows L2

inductive Uo where | neg | inv deriving DecidableEq
inductive Bo where | add | sub | mul | fdiv | mod | pow | shl | shr | band | bor | bxor deriving DecidableEq
inductive Co where | eq | ne | lt | le | gt | ge | is | isn | inn | nin deriving DecidableEq
inductive Bi where | len | abs | int | bool | tup | lst | srt | sum | min1 | max1 | min2 | max2 | all | any | repr | ssrt deriving DecidableEq
inductive Mt where | index | join | split deriving DecidableEq
inductive Kon where | non | bl (b : Bool) | int (i : Int) | str (x : Str) deriving DecidableEq
inductive Tg where | nm (i : Nat) | tp (is : List Nat)
def Kon.d : Kon → D | .non => .non | .bl b => .bl b | .int i => .int i | .str x => .str x

mutual
inductive Ex where
  | var (i : Nat) | peek (i : Nat) | glb (x : Str) | kon (k : Kon)
  | un (o : Uo) (a : Ex) | nt (a : Ex) | bin (o : Bo) (a b : Ex) | cmp (o : Co) (a b : Ex) | chn (o p : Co) (a b c : Ex)
  | bop (isAnd : Bool) (a b : Ex) | ite (c a b : Ex)
  | idx (a i : Ex) | slc (a : Ex) (lo hi : Op) | rev (a : Ex)
  | tup (es : Es) | lst (es : Es)
  | cal (f : Str) (es : Es) (ks : List Str)
  | bi (b : Bi) (es : Es) | mt (m : Mt) (a : Ex) (es : Es)
  | lc (w : List Nat) (t : Tg) (it : It) (c : Op) (e : Ex)
  | lc2 (w w1 : List Nat) (t : Tg) (it : It) (t1 : Tg) (it1 : It) (c : Op) (e : Ex)
  | dcK (w : List Nat) (t : Tg) (it : It) (k v : Ex)
  | dcT (w : List Nat) (t : Tg) (it : It) (k v : Ex)
  | ssc (w : List Nat) (t : Tg) (it : It) (c : Op) (e : Ex)
  | isi (a : Ex) (ts : List String)
  | new (e : Ex)
  | popR (a : Ex) (i : Op)
  | exf (i : Nat) (f : Str)                -- e.f, e the caught error in slot i
  | gix (x : Str) (k : Ex)                 -- X.index(k), X a tuple of ints of the module
  | exi (i : Nat) (c : Str)                -- isinstance(e, C), e the caught error in slot i
  | rg1 (t : Bool) (a : Ex) | rg2 (t : Bool) (a b : Ex)   -- tuple(range(..)), list(range(..))
  | dE (t : Bool)                          -- {}, a dict by ints and texts, or by tuples
inductive Es where
  | nil | cons (e : Ex) (es : Es)
inductive Op where
  | no | so (e : Ex)
inductive It where
  | seq (e : Ex) | rng (es : Es) | zip (a b : Ex) | zips (a : Ex) | enu (a : Ex)
end

mutual
inductive Sm where
  | asg (t : Tg) (e : Ex) | asgO (i : Nat) (e : Ex) | par (ts : List (Nat × Bool)) (es : Es)
  | aug (i : Nat) (o : Bo) (e : Ex)
  | setO (i : Nat) (k e : Ex) | appO (i : Nat) (e : Ex) | insO (i : Nat) (k e : Ex)
  | setR (a k e : Ex) | appR (a e : Ex)
  | drop (e : Ex) | ret (e : Ex) | retN
  | iff (c : Ex) (a b : Ss) | whl (c : Ex) (b : Ss) | forr (t : Tg) (it : It) (b : Ss)
  | brk | cnt | pas
  | rai (c : Str) (es : Es)
  | tri (b : Ss) (hs : Hs)
  | frz (i : Nat)
inductive Ss where
  | nil | cons (s : Sm) (ss : Ss)
inductive Hs where
  | nil | cons (c : Str) (i : Option Nat) (b : Ss) (hs : Hs)
end

/-! ### plain data: ==, repr -/
mutual
def okD : D → Bool
  | .non => true | .bl _ => true | .int _ => true
  | .str x => PyData.strOk x
  | .tup xs => okDs xs | .lst xs => okDs xs | .ctup xs => okDs xs
  | _ => false
def okDs : List D → Bool
  | [] => true
  | x :: xs => okD x && okDs xs
end
mutual
def depD : D → Nat
  | .tup xs => depDs xs + 1
  | .ctup xs => depDs xs + 1
  | .lst xs => depDs xs + 1
  | _ => 0
def depDs : List D → Nat
  | [] => 0
  | x :: xs => max (depD x) (depDs xs)
end
mutual
def toP : D → PyData
  | .non => .none | .bl b => .bool b | .int i => .int i | .str x => .str x
  | .tup xs => .tuple (toPs xs) | .lst xs => .list (toPs xs) | .ctup xs => .tuple (toPs xs)
  | _ => .none
def toPs : List D → List PyData
  | [] => []
  | x :: xs => toP x :: toPs xs
end
mutual
def eqv : D → D → Bool
  | .non, .non => true
  | .bl a, .bl b => a == b
  | .bl a, .int j => (if a then 1 else 0) == j
  | .int i, .bl b => i == (if b then 1 else 0)
  | .int i, .int j => i == j
  | .str x, .str y => x == y
  | .lst xs, .lst ys => eqvs xs ys
  | .tup xs, .tup ys => eqvs xs ys
  | .ctup xs, .tup ys => eqvs xs ys
  | .tup xs, .ctup ys => eqvs xs ys
  | .ctup xs, .ctup ys => eqvs xs ys
  | _, _ => false
def eqvs : List D → List D → Bool
  | [], [] => true
  | x :: xs, y :: ys => eqv x y && eqvs xs ys
  | _, _ => false
end
def shapedD (d : D) : Bool := okD d && decide (depD d ≤ 64)
mutual
/-- a bound of the length of a value's repr -/
def wD : D → Nat
  | .int i => i.natAbs.log2 + 3
  | .str x => (reprText x).length
  | .tup xs => wDs xs + 4
  | .ctup xs => wDs xs + 4
  | .lst xs => wDs xs + 4
  | _ => 5
def wDs : List D → Nat
  | [] => 0
  | x :: xs => wD x + 2 + wDs xs
end
mutual
def showD : D → Bool
  | .non => true | .bl _ => true
  | .int i => decide (i.natAbs.log2 < 1920)
  | .str x => PyData.strOk x
  | .tup xs => showDs xs | .lst xs => showDs xs | .ctup xs => showDs xs
  | _ => false
def showDs : List D → Bool
  | [] => true
  | x :: xs => showD x && showDs xs
end
def reprD (d : D) : Str := (toP d).shown
def reprOk (d : D) : Bool := showD d && decide (depD d ≤ 30) && decide (wD d ≤ 1000000)

/-- what a slot may own -/
def isOwn : D → Bool
  | .lst _ => true | .dk _ _ => true | .dt _ _ => true | _ => false
/-- a list that stands in the store, as a list -/
def derefD (st : Sto) : D → D
  | .ref n => match st[n]? with
    | some (.lst ds) => .lst ds
    | none => .ref n
  | .ctup ds => .tup ds
  | d => d
def sclD : D → D → Bool
  | .non, .non => true | .non, .int _ => true | .int _, .non => true | .non, .bl _ => true | .bl _, .non => true | .non, .str _ => true | .str _, .non => true
  | .int _, .int _ => true | .bl _, .bl _ => true | .str _, .str _ => true
  | .int _, .str _ => true | .str _, .int _ => true | .bl _, .str _ => true | .str _, .bl _ => true
  | _, _ => false
def eqD (st : Sto) (a b : D) : Option Bool :=
  if sclD a b then some (eqv a b)
  else let a := derefD st a; let b := derefD st b
    if shapedD a && shapedD b then some (eqv a b) else none

/-! ### order -/
def ltInts : List D → List D → Option Bool
  | [], [] => some false
  | [], .int _ :: _ => some true
  | .int _ :: _, [] => some false
  | .int a :: xs, .int b :: ys => if a = b then ltInts xs ys else some (decide (a < b))
  | _, _ => none
def allInts : List D → Bool
  | [] => true
  | .int _ :: xs => allInts xs
  | _ => false
def tupD : D → Option (List D)
  | .tup xs => some xs
  | .ctup xs => some xs
  | _ => none
def ltD : D → D → Option Bool
  | .int i, .int j => some (decide (i < j))
  | .str x, .str y => some (decide (x.cps.toList < y.cps.toList))
  | a, b => match tupD a, tupD b with
    | some xs, some ys => if allInts xs && allInts ys then ltInts xs ys else none
    | _, _ => none

/-! ### operators -/
def unD : Uo → D → Option D
  | .neg, .int i => some (.int (-i))
  | .inv, .int i => some (.int (Builtin.bitNot i))
  | _, _ => none
def cMul (i j : Int) : Bool := (decide (-(2 ^ 64) < i) && decide (i < 2 ^ 64)) || (decide (-(2 ^ 64) < j) && decide (j < 2 ^ 64))
def cDiv (j : Int) : Bool := decide (j ≠ 0) && decide (j.natAbs < 1073741824)
def cMod (j : Int) : Bool := decide (j ≠ 0)
def cPow (i j : Int) : Bool := decide (0 ≤ j) && decide (j ≤ 1000000) && decide (i.natAbs < 2 ^ 64)
def big : Nat := 16777216
def binI : Bo → Int → Int → Option Int
  | .add, i, j => some (i + j)
  | .sub, i, j => some (i - j)
  | .mul, i, j => if cMul i j then some (i * j) else none
  | .fdiv, i, j => if cDiv j then some (i.fdiv j) else none
  | .mod, i, j => if cMod j then some (i.fmod j) else none
  | .pow, i, j => if cPow i j then some (i ^ j.toNat) else none
  | .shl, i, j => if cPow i j then some (i * 2 ^ j.toNat) else none
  | .shr, i, j => if decide (0 ≤ j) then some (i / 2 ^ j.toNat) else none
  | .band, i, j => some (Builtin.bitAnd i j)
  | .bor, i, j => some (Builtin.bitOr i j)
  | .bxor, i, j => some (Builtin.bitXor i j)
def repD (k : Int) (xs : List D) : List D := (List.replicate k.toNat xs).flatten
def binD : Bo → D → D → Option D
  | o, .int i, .int j => (binI o i j).map .int
  | .add, .str x, .str y => if x.length + y.length ≤ big then some (.str (x ++ y)) else none
  | .add, .tup xs, .tup ys => if xs.length + ys.length ≤ big then some (.tup (xs ++ ys)) else none
  | .add, .lst xs, .lst ys => if xs.length + ys.length ≤ big then some (.lst (xs ++ ys)) else none
  | .add, a, b => match tupD a, tupD b with
    | some xs, some ys => if xs.length + ys.length ≤ big then some (.ctup (xs ++ ys)) else none
    | _, _ => none
  | .mul, .lst xs, .int k => if decide (k ≤ 1000000) && decide (-1000000 ≤ k) && decide (xs.length * k.toNat ≤ big) then some (.lst (repD k xs)) else none
  | .mul, a, .int k => match tupD a with
    | some xs => if !xs.isEmpty && decide (2 ≤ k) && decide (k ≤ 1000) && decide (xs.length ≤ 1000) then some (.tup (repD k xs)) else none
    | none => none
  | _, _, _ => none
def keyD : D → Option Key
  | .int i => some (.inl i)
  | .str x => some (.inr x)
  | _ => none
def keysD : D → Option (List Key)
  | .tup ds => ds.mapM keyD
  | _ => none
section
variable {κ : Type} [DecidableEq κ]
def lookKV (ks : List κ) (vs : List D) (q : κ) : Option D := ((ks.zip vs).find? fun kv => decide (kv.1 = q)).map (·.2)
def putKs (ks : List κ) (q : κ) : List κ := if ks.any (fun k => decide (k = q)) then ks else ks ++ [q]
def putVs (ks : List κ) (vs : List D) (q : κ) (d : D) : List D := if ks.any (fun k => decide (k = q)) then List.zipWith (fun k v => if k = q then d else v) ks vs else vs ++ [d]
end
/-- x in c -/
def inD (st : Sto) (x c : D) : Option Bool := match derefD st c with
  | .tup xs => if shapedD x && shapedD (.tup xs) then some (xs.any fun y => eqv y x) else none
  | .lst xs => if shapedD x && shapedD (.lst xs) then some (xs.any fun y => eqv y x) else none
  | .str z => match x with
    | .str y => if y.length = 1 then some (decide (y.cps.getD 0 0 ∈ z.cps.toList)) else none
    | _ => none
  | .dk ks _ => (keyD x).map fun k => ks.any fun q => decide (q = k)
  | .dt ks _ => (keysD x).map fun k => ks.any fun q => decide (q = k)
  | _ => none
def isNon : D → Bool | .non => true | _ => false
def cmpD (st : Sto) : Co → D → D → Option Bool
  | .eq, a, b => eqD st a b
  | .ne, a, b => (eqD st a b).map (!·)
  | .lt, a, b => ltD a b
  | .gt, .int i, .int j => some (decide (j < i))
  | .le, .int i, .int j => some (decide (i ≤ j))
  | .ge, .int i, .int j => some (decide (j ≤ i))
  | .is, a, b => if isNon b then some (isNon a) else none
  | .isn, a, b => if isNon b then some (!isNon a) else none
  | .inn, a, b => inD st a b
  | .nin, a, b => (inD st a b).map (!·)
  | _, _, _ => none

def atD (xs : List D) (i : Int) : Option D := atI xs i
def idxD (st : Sto) (a i : D) : Option D := match derefD st a, i with
  | .tup xs, .int i => atD xs i
  | .lst xs, .int i => atD xs i
  | .str x, .int i => if x.length ≤ big then (atI x.cps.toList i).map fun c => .str ⟨#[c]⟩ else none
  | .dk ks vs, x => (keyD x).bind fun k => lookKV ks vs k
  | .dt ks vs, x => (keysD x).bind fun k => lookKV ks vs k
  | _, _ => none
def cutD {α : Type} (xs : List α) (lo hi : Option Int) : List α := (xs.drop (HT.sIx xs.length 0 lo)).take (HT.sIx xs.length xs.length hi - HT.sIx xs.length 0 lo)
def slcD (a : D) (lo hi : Option Int) : Option D := match a with
  | .tup xs => some (.tup (cutD xs lo hi))
  | .ctup xs => some (.ctup (cutD xs lo hi))
  | .lst xs => some (.lst (cutD xs lo hi))
  | .clst xs => some (.lst (cutD xs lo hi))
  | .str x => if x.length ≤ big then some (.str (cutS x lo hi)) else none
  | _ => none
def revD : D → Option D
  | .lst xs => some (.lst xs.reverse)
  | .tup xs => some (.tup xs.reverse)
  | .ctup xs => some (.ctup xs.reverse)
  | _ => none
/-- truth -/
def truD (st : Sto) (d : D) : Option Bool := match derefD st d with
  | .non => some false
  | .bl b => some b
  | .int i => some (i != 0)
  | .str x => if x.length ≤ big then some ((x.length : Int) != 0) else none
  | .tup xs => some (!xs.isEmpty)
  | .lst xs => some (!xs.isEmpty)
  | .dk ks _ => some (!ks.isEmpty)
  | _ => none

/-! ### calls of built-ins -/
def asInts : List D → Option (List Int)
  | [] => some []
  | .int i :: xs => (asInts xs).map (i :: ·)
  | _ => none
def asBls : List D → Option (List Bool)
  | [] => some []
  | .bl i :: xs => (asBls xs).map (i :: ·)
  | _ => none
def minI : List Int → Int
  | [] => 0
  | [a] => a
  | a :: l => min a (minI l)
def maxI : List Int → Int
  | [] => 0
  | [a] => a
  | a :: l => max a (maxI l)
/-- the items of a sequence -/
def seqD (st : Sto) (d : D) : Option (List D) := match derefD st d with
  | .tup xs => some xs
  | .lst xs => some xs
  | _ => none
def lenD (st : Sto) (d : D) : Option Nat := match derefD st d with
  | .tup xs => some xs.length
  | .lst xs => some xs.length
  | .str x => if x.length ≤ big then some x.length else none
  | _ => none
/-- the items of a list -/
def lstD (st : Sto) (d : D) : Option (List D) := match derefD st d with
  | .lst xs => some xs
  | _ => none
/-- sorted by a number -/
def insBy {α : Type} (key : α → Int) (x : α) : List α → List α
  | [] => [x]
  | y :: ys => if key x ≤ key y then x :: y :: ys else y :: insBy key x ys
def sortBy {α : Type} (key : α → Int) : List α → List α
  | [] => []
  | x :: xs => insBy key x (sortBy key xs)
def intsD (d : D) : List Int := match tupD d with
  | some xs => (asInts xs).getD []
  | none => []
def boundD (xs : List D) : Int := (xs.map intsD).flatten.foldl max 1 + 1
/-- tuples of d ints that are not negative -/
def tupsOk (xs : List D) : Bool := match xs with
  | [] => false
  | x :: _ => decide (0 < (intsD x).length) && xs.all fun y => match y with
    | .tup ys => allInts ys && decide (ys.length = (intsD x).length) && ((asInts ys).getD []).all fun i => decide (0 ≤ i)
    | _ => false
def sortD (xs : List D) : Option (List D) := match asInts xs with
  | some ns => some ((sortBy id ns).map D.int)
  | none => if tupsOk xs && decide (xs.length < 64) then some (sortBy (fun d => TS.code (boundD xs) (intsD d)) xs) else none
def dedupD : List D → List D
  | [] => []
  | x :: xs => if xs.any (fun y => eqv y x) then dedupD xs else x :: dedupD xs
def dedupZ : List Int → List Int
  | [] => []
  | x :: xs => if x ∈ xs then dedupZ xs else x :: dedupZ xs
/-- data that can be compared with one another -/
def likeD (xs : List D) : Bool := xs.all fun a => okD a && decide (depD a ≤ 60) && (match a with | .non => false | .lst _ => false | _ => true) && xs.all fun b => PySem.W.alike (toP a) (toP b)
def minF (x : D) (xs : List D) : D := xs.foldl (fun a y => if PySem.W.dataLt (toP y) (toP a) then y else a) x
def minD1 : List D → Option D
  | [] => none
  | x :: xs => if likeD (x :: xs) then some (minF x xs) else none
def maxF (x : D) (xs : List D) : D := xs.foldl (fun a y => if PySem.W.dataLt (toP a) (toP y) then y else a) x
def maxD1 : List D → Option D
  | [] => none
  | x :: xs => if likeD (x :: xs) then some (maxF x xs) else none
def biD (st : Sto) : Bi → List D → Option D
  | .len, [d] => (lenD st d).map fun (n : Nat) => D.int (n : Int)
  | .abs, [.int i] => some (.int (if i < 0 then -i else i))
  | .int, [.int i] => some (.int i)
  | .int, [.bl b] => some (.int (if b then 1 else 0))
  | .bool, [.int i] => some (.bl (i != 0))
  | .bool, [.bl b] => some (.bl b)
  | .tup, [d] => (match d with
    | .ctup xs => some (.ctup xs)
    | d => (seqD st d).map .tup)
  | .lst, [d] => (seqD st d).map .lst
  | .srt, [d] => (lstD st d).bind fun xs => (sortD xs).map .lst
  | .ssrt, [d] => (lstD st d).bind fun xs => match asInts xs with
    | some ns => if ns.length ≤ 4000 then some (.lst ((sortBy id (dedupZ ns)).map .int)) else none
    | none => if tupsOk xs && decide (xs.length < 64) then some (.lst (sortBy (fun d => TS.code (boundD xs) (intsD d)) (dedupD xs))) else none
  | .sum, [d] => (seqD st d).bind fun xs => (asInts xs).map fun ns => .int ns.sum
  | .min1, [d] => match lstD st d with
    | some xs => (match asInts xs with
      | some ns => if ns.isEmpty then none else some (.int (minI ns))
      | none => minD1 xs)
    | none => (seqD st d).bind minD1
  | .max1, [d] => match lstD st d with
    | some xs => (match asInts xs with
      | some ns => if ns.isEmpty then none else some (.int (maxI ns))
      | none => maxD1 xs)
    | none => (seqD st d).bind maxD1
  | .min2, [.int i, .int j] => some (.int (if j < i then j else i))
  | .max2, [.int i, .int j] => some (.int (if j > i then j else i))
  | .all, [d] => (lstD st d).bind fun xs => (asBls xs).map fun bs => .bl (bs.all id)
  | .any, [d] => (lstD st d).bind fun xs => (asBls xs).map fun bs => .bl (bs.any id)
  | .repr, [d] => if reprOk d then some (.str (reprD d)) else none
  | _, _ => none
def findD (x : D) : List D → Option Nat
  | [] => none
  | y :: ys => if eqv y x then some 0 else (findD x ys).map (· + 1)
def isLst (st : Sto) (d : D) : Bool := match derefD st d with
  | .lst _ => true
  | _ => false
def asStrs : List D → Option (List Str)
  | [] => some []
  | .str x :: r => (asStrs r).map (x :: ·)
  | _ => none
/-- what a method is asked of -/
def mtB (m : Mt) (st : Sto) (d : D) : Bool := match m with
  | .index => isLst st d
  | _ => (match d with | .str _ => true | _ => false)
def mtD (st : Sto) : Mt → D → List D → Option D
  | .join, .str y, [x] => (seqD st x).bind fun xs => (asStrs xs).bind fun zs => if (zs.map (·.length)).sum + zs.length * y.length ≤ 16777216 then some (.str (PySem.Txt.join y zs)) else none
  | .split, .str x, [.str y] => if (y.length == 0) = false ∧ x.length + 2 ≤ big then some (.lst ((PySem.Txt.split x y).map .str)) else none
  | .index, d, [x] => match derefD st d with
    | .lst xs => if shapedD x && shapedD (.lst xs) then (findD x xs).map fun (n : Nat) => D.int (n : Int) else none
    | _ => none
  | _, _, _ => none
def gixD (ns : List Int) : D → Option D
  | .int i => if ns.contains i then some (.int ((ns.idxOf i : Nat) : Int)) else none
  | _ => none
/-- isinstance of plain data -/
def tyD : D → Option String
  | .non => some "NoneType"
  | .bl _ => some "bool"
  | .int _ => some "int"
  | .str _ => some "str"
  | .tup _ => some "tuple"
  | .ctup _ => some "tuple"
  | .lst _ => some "list"
  | _ => none
def isiT (t u : String) : Bool := t == u || (t == "bool" && u == "int")
def isiD (d : D) (ts : List String) : Option Bool := match tyD d with
  | some t => if ts.all (fun u => ["int", "bool", "str", "tuple", "list"].contains u) then some (ts.any (isiT t)) else none
  | none => none

/-! ### the evaluator -/
/-- g: the module's constants; fld: what an error class keeps; sub: which class catches it (is above it) -/
structure Tb where
  g : Str → Option D
  fps : Str → Option (List Str)
  kwp : Str → Nat → List Str → Option (List Nat)
  gt : Str → Option (List Int)
  fld : Str → Option (List Str)
  sub : Str → Str → Bool
  hn : Str → Bool
def fieldB (T : Tb) (c f : Str) : Bool := match T.fld c with
  | some fs => fs.contains f
  | none => false
def Hs.hnB (T : Tb) : Hs → Bool
  | .nil => true
  | .cons c _ _ hs => T.hn c && Hs.hnB T hs
/-- no caught error is known any more -/
def Enw.clr (e : Enw) : Enw := e.map fun s => match s with
  | .er _ _ => .no
  | s => s
def Enw.wipe : Enw → List Nat → Enw
  | e, [] => e
  | e, v :: vs => (Enw.wipe e vs).set v .no
def bindS : List Nat → List D → Enw → Option Enw
  | [], [], e => some e
  | i :: is, d :: ds, e => bindS is ds (e.set i (.va d))
  | _, _, _ => none
def bindT : Tg → D → Enw → Option Enw
  | .nm i, d, e => some (e.set i (.va d))
  | .tp is, d, e => match tupD d with
    | some ds => bindS is ds e
    | none => none
def ofO {α : Type} (o : Option α) (st : Sto) : Res α := match o with
  | some a => .ok a st
  | none => .bad
/-- what must not raise -/
def Res.nox {α : Type} : Res α → Res α
  | .exc _ _ _ => .bad
  | r => r
def lcLoop (f : D → Sto → Res (Option D)) : List D → Sto → Res (List D)
  | [], st => .ok [] st
  | d :: ds, st => (f d st).bind fun o st1 => (lcLoop f ds st1).bind fun r st2 => .ok (match o with
    | some x => x :: r
    | none => r) st2
def lcLoop2 (f : D → Sto → Res (List D)) : List D → Sto → Res (List D)
  | [], st => .ok [] st
  | d :: ds, st => (f d st).bind fun o st1 => (lcLoop2 f ds st1).bind fun r st2 => .ok (o ++ r) st2
def dcLoop {κ : Type} [DecidableEq κ] (f : D → Sto → Res (κ × D)) : List D → List κ → List D → Sto → Res (List κ × List D)
  | [], ks, vs, st => .ok (ks, vs) st
  | d :: ds, ks, vs, st => (f d st).bind fun p st1 => dcLoop f ds (putKs ks p.1) (putVs ks vs p.1 p.2) st1
def rngL (lo : Int) (n : Nat) : List D := (List.range n).map fun (i : Nat) => .int (lo + (i : Int))
def rngC (lo c : Int) (n : Nat) : List D := (List.range n).map fun (i : Nat) => .int (lo + (i : Int) * c)
def rngK (a b c : Int) : Bool := decide (c ≠ 0) && decide (c.natAbs < 1073741824) && Builtin.Range.small a b c && decide (0 ≤ Builtin.Range.rangeSize a b c)
def rngD : List D → Option (List D)
  | [.int n] => if -1000000 ≤ n ∧ n ≤ 1000000 then some (rngL 0 n.toNat) else none
  | [.int a, .int b] => if -1000000 ≤ a ∧ a ≤ 1000000 ∧ -1000000 ≤ b ∧ b ≤ 1000000 then some (rngL a (b - a).toNat) else none
  | [.int a, .int b, .int c] => if rngK a b c = true then some (rngC a c (Builtin.Range.rangeSize a b c).toNat) else none
  | _ => none
def few (ds : List D) : Option (List D) := if ds.length ≤ big then some ds else none
def rgD (t : Bool) (ds : List D) : Option D := ((rngD ds).bind few).map fun xs => if t then .tup xs else .lst xs
def zipD (xs ys : List D) : List D := (xs.zip ys).map fun p => .tup [p.1, p.2]
def enuD (xs : List D) : List D := (xs.zipIdx).map fun p => .tup [.int (p.2 : Int), p.1]
def asSeqs : List D → Option (List (List D))
  | [] => some []
  | .tup xs :: r => (asSeqs r).map (xs :: ·)
  | .ctup xs :: r => (asSeqs r).map (xs :: ·)
  | .lst xs :: r => (asSeqs r).map (xs :: ·)
  | _ => none
def minLen : List (List D) → Nat
  | [] => 0
  | [x] => x.length
  | x :: r => min x.length (minLen r)
def zipsD (rows : List (List D)) : List D := (List.range (minLen rows)).map fun i => .tup (rows.map fun r => r.getD i .non)
def popD (xs : List D) (i : Option Int) : Option (D × List D) := match i with
  | none => (xs[xs.length - 1]?).map fun x => (x, xs.dropLast)
  | some i => if xs.length ≤ big then (ixN xs.length i).bind fun k => (xs[k]?).map fun x => (x, xs.eraseIdx k) else none

abbrev Cl := Str → List D → Sto → Res D
/-- a value, a test -/
structure Sem2 where
  v : Enw → Sto → Res D
  b : Enw → Sto → Res Bool
def mkT (v : Enw → Sto → Res D) : Sem2 := ⟨v, fun e st => (v e st).bind fun x s1 => ofO (truD s1 x) s1⟩
/-- from a test -/
def mkB (b : Enw → Sto → Res Bool) : Sem2 := ⟨fun e st => (b e st).bind fun k s1 => .ok (.bl k) s1, b⟩
/-- one turn of a comprehension -/
def turnC (w : List Nat) (t : Tg) (c : Enw → Sto → Res Bool) (el : Enw → Sto → Res D) (e : Enw) (d : D) (s : Sto) : Res (Option D) := match bindT t d (e.wipe w) with
  | none => .bad
  | some e1 => (c e1 s).bind fun b s' => if b then (el e1 s').bind fun x s'' => .ok (some x) s'' else .ok none s'
def turnD {κ : Type} (key : D → Option κ) (w : List Nat) (t : Tg) (k v : Enw → Sto → Res D) (e : Enw) (d : D) (s : Sto) : Res (κ × D) := match bindT t d (e.wipe w) with
  | none => .bad
  | some e1 => (k e1 s).bind fun x s' => (v e1 s').bind fun y s'' => match key x with
    | some q => .ok (q, y) s''
    | none => .bad
def strItems (z : Str) : List D := z.cps.toList.map fun c => .str ⟨#[c]⟩
def itemsD : D → Option (List D)
  | .tup xs => some xs
  | .ctup xs => some xs
  | .lst xs => some xs
  | .str z => some (strItems z)
  | _ => none
def zip2D : D → D → Option (List D)
  | .lst xs, .lst ys => some (zipD xs ys)
  | a, b => match tupD a, tupD b with
    | some xs, some ys => some (zipD xs ys)
    | _, _ => none
def rowsD : D → Option (List (List D))
  | .tup xs => asSeqs xs
  | .ctup xs => asSeqs xs
  | .lst xs => asSeqs xs
  | _ => none
def itsD : D → Option (List D)
  | .tup xs => some xs
  | .ctup xs => some xs
  | .lst xs => some xs
  | _ => none
def intD : D → Option Int
  | .int i => some i
  | _ => none
def newD (x : D) (st : Sto) : Res D := match x with
  | .lst ds => .ok (.ref st.length) (st ++ [.lst ds])
  | _ => .bad
/-- the arguments in the parameters' order -/
def permL {α : Type} (p : List Nat) (xs : List α) : Option (List α) := p.mapM fun i => xs[i]?
def calD (T : Tb) (cl : Cl) (f : Str) (ps ks : List Str) (ds : List D) (st : Sto) : Res D := match ks with
  | [] => if ds.length = ps.length then cl f ds st else .bad
  | _ :: _ => match T.kwp f (ds.length - ks.length) ks with
    | none => .bad
    | some p => match permL p ds with
      | some es => if es.length = ps.length then cl f es st else .bad
      | none => .bad
def isRef : D → Bool
  | .ref _ => true
  | _ => false
def popRD (x : D) (k : Option Int) (st : Sto) : Res D := match x with
  | .ref n => (match st[n]? with
    | some (.lst ds) => (match popD ds k with
      | some (d, r) => .ok d (st.set n (.lst r))
      | none => .bad)
    | none => .bad)
  | _ => .bad
section
variable (T : Tb) (cl : Cl)
mutual
def sem : Ex → Sem2
  | .var i => mkT fun e st => match e[i]? with
    | some (.va d) => .ok d st
    | _ => .bad
  | .peek i => mkT fun e st => match e[i]? with
    | some (.va d) => .ok d st
    | some (.ow d) => .ok d st
    | _ => .bad
  | .glb x => mkT fun _ st => ofO (T.g x) st
  | .kon k => mkT fun _ st => .ok k.d st
  | .un o a => mkT fun e st => ((sem a).v e st).bind fun x s1 => ofO (unD o x) s1
  | .nt a => ⟨fun e st => ((sem a).v e st).bind fun x s1 => (ofO (truD s1 x) s1).bind fun k s2 => .ok (.bl (!k)) s2, fun e st => ((sem a).b e st).bind fun b s1 => .ok (!b) s1⟩
  | .bin o a b => mkT fun e st => ((sem a).v e st).bind fun x s1 => ((sem b).v e s1).bind fun y s2 => ofO (binD o x y) s2
  | .cmp o a b => mkB fun e st => ((sem a).v e st).bind fun x s1 => ((sem b).v e s1).bind fun y s2 => ofO (cmpD s2 o x y) s2
  | .chn o p a b c => mkB fun e st => ((sem a).v e st).bind fun x s1 => ((sem b).v e s1).bind fun y s2 => (ofO (cmpD s2 o x y) s2).bind fun k s3 =>
      if k then ((sem c).v e s3).bind fun z s4 => ofO (cmpD s4 p y z) s4 else .ok false s3
  | .bop true a b => ⟨fun e st => ((sem a).v e st).bind fun x s1 => (ofO (truD s1 x) s1).bind fun k s2 => if k then (sem b).v e s2 else .ok x s2,
      fun e st => ((sem a).b e st).bind fun k s1 => if k then (sem b).b e s1 else .ok false s1⟩
  | .bop false a b => ⟨fun e st => ((sem a).v e st).bind fun x s1 => (ofO (truD s1 x) s1).bind fun k s2 => if k then .ok x s2 else (sem b).v e s2,
      fun e st => ((sem a).b e st).bind fun k s1 => if k then .ok true s1 else (sem b).b e s1⟩
  | .ite c a b => ⟨fun e st => ((sem c).b e st).bind fun k s1 => if k then (sem a).v e s1 else (sem b).v e s1, fun e st => ((sem c).b e st).bind fun k s1 => if k then (sem a).b e s1 else (sem b).b e s1⟩
  | .idx a i => mkT fun e st => ((sem a).v e st).bind fun x s1 => ((sem i).v e s1).bind fun y s2 => ofO (idxD s2 x y) s2
  | .slc a lo hi => mkT fun e st => ((sem a).v e st).bind fun x s1 => (semO lo e s1).bind fun l s2 => (semO hi e s2).bind fun h s3 => ofO (slcD x l h) s3
  | .rev a => mkT fun e st => ((sem a).v e st).bind fun x s1 => ofO (revD x) s1
  | .tup es => mkT fun e st => (sems es e st).bind fun ds s1 => if ds.length ≤ big then .ok (.tup ds) s1 else .bad
  | .lst es => mkT fun e st => (sems es e st).bind fun ds s1 => if ds.length ≤ big then .ok (.lst ds) s1 else .bad
  | .cal f es ks => mkT fun e st => match T.fps f with
    | none => .bad
    | some ps => (sems es e st).bind fun ds s1 => calD T cl f ps ks ds s1
  | .bi b es => mkT fun e st => (sems es e st).bind fun ds s1 => ofO (biD s1 b ds) s1
  | .mt m a es => mkT fun e st => ((sem a).v e st).bind fun x s1 => if mtB m s1 x then (sems es e s1).bind fun ds s2 => ofO (mtD s2 m x ds) s2 else .bad
  | .lc w t it c el => mkT fun e st => (semI it e st).bind fun ds s1 => ((lcLoop (turnC w t (semC c) (sem el).v e) ds s1).nox).bind fun xs s2 => .ok (.lst xs) s2
  | .lc2 w w1 t it t1 it1 c el => mkT fun e st => (semI it e st).bind fun ds s1 => ((lcLoop2 (fun d s => match bindT t d (e.wipe w) with
      | none => .bad
      | some e1 => (semI it1 e1 s).bind fun ds1 s' => lcLoop (turnC w1 t1 (semC c) (sem el).v e1) ds1 s') ds s1).nox).bind fun xs s2 => if xs.length ≤ big then .ok (.lst xs) s2 else .bad
  | .dcK w t it k v => mkT fun e st => (semI it e st).bind fun ds s1 => ((dcLoop (turnD keyD w t (sem k).v (sem v).v e) ds [] [] s1).nox).bind fun xs s2 => .ok (.dk xs.1 xs.2) s2
  | .dcT w t it k v => mkT fun e st => (semI it e st).bind fun ds s1 => ((dcLoop (turnD keysD w t (sem k).v (sem v).v e) ds [] [] s1).nox).bind fun xs s2 => .ok (.dt xs.1 xs.2) s2
  | .ssc w t it c el => mkT fun e st => (semI it e st).bind fun ds s1 => ((lcLoop (turnC w t (semC c) (sem el).v e) ds s1).nox).bind fun xs s2 =>
        if tupsOk xs && decide (xs.length < 64) then .ok (.lst (sortBy (fun d => TS.code (boundD xs) (intsD d)) (dedupD xs))) s2 else .bad
  | .gix x k => mkT fun e st => match T.gt x with
    | none => .bad
    | some ns => ((sem k).v e st).bind fun y s1 => ofO (gixD ns y) s1
  | .isi a ts => mkB fun e st => ((sem a).v e st).bind fun x s1 => ofO (isiD x ts) s1
  | .new a => mkT fun e st => ((sem a).v e st).bind fun x s1 => newD x s1
  | .popR a i => mkT fun e st => ((sem a).v e st).bind fun x s1 => if isRef x then (semO i e s1).bind fun k s2 => popRD x k s2 else .bad
  | .exf i f => mkT fun e st => match e[i]? with
    | some (.er c fs) => if fieldB T c f then ofO (fs.lookup f) st else .bad
    | _ => .bad
  | .dE t => mkT fun e st => .ok (if t then .dt [] [] else .dk [] []) st
  | .rg1 t a => mkT fun e st => ((sem a).v e st).bind fun x s1 => ofO (rgD t [x]) s1
  | .rg2 t a b => mkT fun e st => ((sem a).v e st).bind fun x s1 => ((sem b).v e s1).bind fun y s2 => ofO (rgD t [x, y]) s2
  | .exi i c => mkB fun e st => match e[i]? with
    | some (.er c' _) => .ok (T.sub c' c) st
    | _ => .bad
def sems : Es → Enw → Sto → Res (List D)
  | .nil => fun _ st => .ok [] st
  | .cons a es => fun e st => ((sem a).v e st).bind fun x s1 => (sems es e s1).bind fun xs s2 => .ok (x :: xs) s2
def semO : Op → Enw → Sto → Res (Option Int)
  | .no => fun _ st => .ok none st
  | .so a => fun e st => ((sem a).v e st).bind fun x s1 => (ofO (intD x) s1).bind fun i s2 => .ok (some i) s2
def semC : Op → Enw → Sto → Res Bool
  | .no => fun _ st => .ok true st
  | .so a => fun e st => (sem a).b e st
def semI : It → Enw → Sto → Res (List D)
  | .seq a => fun e st => ((sem a).v e st).bind fun x s1 => ofO ((itemsD x).bind few) s1
  | .rng es => fun e st => (sems es e st).bind fun ds s1 => ofO ((rngD ds).bind few) s1
  | .zip a b => fun e st => ((sem a).v e st).bind fun x s1 => ((sem b).v e s1).bind fun y s2 => ofO ((zip2D x y).bind few) s2
  | .zips a => fun e st => ((sem a).v e st).bind fun x s1 => ofO (((rowsD x).map zipsD).bind few) s1
  | .enu a => fun e st => ((sem a).v e st).bind fun x s1 => ofO (((itsD x).map enuD).bind few) s1
end

/-- c[q] = d -/
def setD (c q d : D) : Option D := match c, q with
  | .lst xs, .int j => (ixN xs.length j).map fun n => .lst (xs.set n d)
  | .dk ks vs, x => (keyD x).bind fun y => if ks.length < big then some (.dk (putKs ks y) (putVs ks vs y d)) else none
  | .dt ks vs, x => (keysD x).bind fun y => if ks.length < big then some (.dt (putKs ks y) (putVs ks vs y d)) else none
  | _, _ => none
inductive Out where
  | nx (e : Enw) (st : Sto) | bk (e : Enw) (st : Sto) | ct (e : Enw) (st : Sto) | rt (d : D) (st : Sto)
  | ex (c : Str) (fs : List (Str × D)) (e : Enw) (st : Sto)
  | bad
def Res.so {α : Type} (r : Res α) (e : Enw) (f : α → Sto → Out) : Out := match r with
  | .ok a st => f a st
  | .exc c fs st => .ex c fs e st
  | .bad => .bad
def whileN (c : Enw → Sto → Res Bool) (b : Enw → Sto → Out) : Nat → Enw → Sto → Out
  | 0, _, _ => .bad
  | n + 1, e, st => (c e st).so e fun k s1 => if k then (match b e s1 with
    | .nx e' s' => whileN c b n e' s'
    | .ct e' s' => whileN c b n e' s'
    | .bk e' s' => .nx e' s'
    | o => o) else .nx e s1
def forN (t : Tg) (b : Enw → Sto → Out) : List D → Enw → Sto → Out
  | [], e, st => .nx e st
  | d :: ds, e, st => match bindT t d e with
    | none => .bad
    | some e1 => match b e1 st with
      | .nx e' s' => forN t b ds e' s'
      | .ct e' s' => forN t b ds e' s'
      | .bk e' s' => .nx e' s'
      | o => o
def parS : List (Nat × Bool) → List D → Enw → Option Enw
  | [], [], e => some e
  | (i, o) :: is, d :: ds, e => parS is ds (e.set i (if o then .ow d else .va d))
  | _, _, _ => none
def semsP (T : Tb) (cl : Cl) : List (Nat × Bool) → Es → Enw → Sto → Res (List D)
  | [], .nil, _, st => .ok [] st
  | (_, o) :: is, .cons a es, e, st => ((sem T cl a).v e st).bind fun x s1 => if o && !isOwn x then .bad else (semsP T cl is es e s1).bind fun xs s2 => .ok (x :: xs) s2
  | _, _, _, _ => .bad
def fuelW : Nat := 1000000
mutual
def exs : Sm → Enw → Sto → Out
  | .asg t a, e, st => ((sem T cl a).v e st).so e fun d s1 => match bindT t d e with
    | some e1 => .nx e1 s1
    | none => .bad
  | .asgO i a, e, st => ((sem T cl a).v e st).so e fun d s1 => if isOwn d then .nx (e.set i (.ow d)) s1 else .bad
  | .par ts es, e, st => (semsP T cl ts es e st).so e fun ds s1 => match parS ts ds e with
    | some e1 => .nx e1 s1
    | none => .bad
  | .aug i o a, e, st => match e[i]? with
    | some (.va (.int x)) => ((sem T cl a).v e st).so e fun y s1 => match y with
      | .int j => (match binI o x j with
        | some z => .nx (e.set i (.va (.int z))) s1
        | none => .bad)
      | _ => .bad
    | _ => .bad
  | .setO i k a, e, st => match e[i]? with
    | some (.ow c) => ((sem T cl a).v e st).so e fun d s1 => ((sem T cl k).v e s1).so e fun q s2 => match setD c q d with
      | some c' => .nx (e.set i (.ow c')) s2
      | none => .bad
    | _ => .bad
  | .appO i a, e, st => match e[i]? with
    | some (.ow (.lst xs)) => ((sem T cl a).v e st).so e fun d s1 => if xs.length < big then .nx (e.set i (.ow (.lst (xs ++ [d])))) s1 else .bad
    | _ => .bad
  | .insO i k a, e, st => match e[i]? with
    | some (.ow (.lst xs)) => ((sem T cl k).v e st).so e fun q s1 => ((sem T cl a).v e s1).so e fun d s2 => match q with
      | .int j => if xs.length < big ∧ 0 ≤ j ∧ j ≤ (xs.length : Int) then .nx (e.set i (.ow (.lst (xs.take j.toNat ++ [d] ++ xs.drop j.toNat)))) s2 else .bad
      | _ => .bad
    | _ => .bad
  | .setR a k x, e, st => ((sem T cl x).v e st).so e fun d s1 => ((sem T cl a).v e s1).so e fun o s2 => ((sem T cl k).v e s2).so e fun q s3 => match o, q with
    | .ref n, .int j => (match s3[n]? with
      | some (.lst xs) => (match ixN xs.length j with
        | some m => .nx e (s3.set n (.lst (xs.set m d)))
        | none => .bad)
      | none => .bad)
    | _, _ => .bad
  | .appR a x, e, st => ((sem T cl a).v e st).so e fun o s1 => if isRef o then (((sem T cl x).v e s1).so e fun d s2 => match o with
    | .ref n => (match s2[n]? with
      | some (.lst xs) => if xs.length < big then .nx e (s2.set n (.lst (xs ++ [d]))) else .bad
      | none => .bad)
    | _ => .bad) else .bad
  | .drop a, e, st => ((sem T cl a).v e st).so e fun _ s1 => .nx e s1
  | .ret a, e, st => ((sem T cl a).v e st).so e fun d s1 => .rt d s1
  | .retN, _, st => .rt .non st
  | .iff c a b, e, st => ((sem T cl c).b e st).so e fun k s1 => if k then exss a e s1 else exss b e s1
  | .whl c b, e, st => whileN (fun e s => (sem T cl c).b e s) (fun e s => exss b e s) fuelW e st
  | .forr t it b, e, st => (semI T cl it e st).so e fun ds s1 => forN t (fun e s => exss b e s) ds e s1
  | .brk, e, st => .bk e st
  | .cnt, e, st => .ct e st
  | .pas, e, st => .nx e st
  | .rai c es, e, st => match T.fld c with
    | some fs => (sems T cl es e st).so e fun ds s1 => if fs.length = ds.length then .ex c (fs.zip ds) e s1 else .bad
    | none => .bad
  | .tri b hs, e, st => if Hs.hnB T hs then (match exss b e st with
    | .ex c fs e1 s1 => exh hs c fs e1 s1
    | o => o) else .bad
  | .frz i, e, st => match e[i]? with
    | some (.ow d) => .nx (e.set i (.va d)) st
    | some (.va d) => .nx e st
    | _ => .bad
def exss : Ss → Enw → Sto → Out
  | .nil, e, st => .nx e st
  | .cons s ss, e, st => match exs s e st with
    | .nx e1 s1 => exss ss e1 s1
    | o => o
def exh : Hs → Str → List (Str × D) → Enw → Sto → Out
  | .nil, c, fs, e, st => .ex c fs e st
  | .cons c' i b hs, c, fs, e, st => if T.hn c && T.hn c' then (if T.sub c c' then (match i with
      | none => .bad
      | some i => (match exss b (e.set i (.er c fs)) st with
        | .nx e1 s1 => .nx (Enw.clr (e1.set i .no)) s1
        | .ct e1 s1 => .ct (Enw.clr (e1.set i .no)) s1
        | .bk e1 s1 => .bk (Enw.clr (e1.set i .no)) s1
        | .ex _ _ _ _ => .bad
        | o => o)) else exh hs c fs e st) else .bad
end
end
end Nb
end
section
set_option Elab.async false
set_option linter.all false
set_option maxRecDepth 100000
/-! NbC: which piece of the program's text a piece of the small language stands for -/
namespace Nb
open PySem PySem.Spec PyProof.Rows L2

/-- where one stands: the scope, the names by slot, whether nothing is being handled -/
structure Mc where
  sc : Scope
  N : List Str
  calm : Bool
  fn : Str → Bool
def notDbg (x : Str) : Bool := !(x == ("__debug__" : Str)) && !(x == ("__classdict__" : Str))
def visB (sc : Scope) (x : Str) : Bool := (match sc.names.lookup x with
  | some .local => true
  | some .cell => true
  | some .free => true
  | _ => false) && notDbg x
def locB (sc : Scope) (x : Str) : Bool := (match sc.names.lookup x with
  | some .local => true
  | some .cell => true
  | _ => false)
def lclB (sc : Scope) (x : Str) : Bool := (match sc.names.lookup x with
  | some .local => true
  | _ => false)
def gloB (sc : Scope) (x : Str) : Bool := (match sc.names.lookup x with
  | some .globalImplicit => true
  | _ => false) && notDbg x
def slotB (N : List Str) (i : Nat) (x : Str) : Bool := match N[i]? with
  | some y => decide (y = x)
  | none => false
def unB : Uo → UnaryOp → Bool
  | .neg, .USub => true
  | .inv, .Invert => true
  | _, _ => false
def boB : Bo → Operator → Bool
  | .add, .Add => true | .sub, .Sub => true | .mul, .Mult => true | .fdiv, .FloorDiv => true | .mod, .Mod => true | .pow, .Pow => true
  | .shl, .LShift => true | .shr, .RShift => true | .band, .BitAnd => true | .bor, .BitOr => true | .bxor, .BitXor => true
  | _, _ => false
def coB : Co → CmpOp → Bool
  | .eq, .Eq => true | .ne, .NotEq => true | .lt, .Lt => true | .le, .LtE => true | .gt, .Gt => true | .ge, .GtE => true
  | .is, .Is => true | .isn, .IsNot => true | .inn, .In => true | .nin, .NotIn => true
  | _, _ => false
def bopB : Bool → BoolOp → Bool
  | true, .And => true
  | false, .Or => true
  | _, _ => false
def konB : Kon → Const → Bool
  | .non, .none => true
  | .bl a, .bool b => a == b
  | .int i, .int j => decide (i = j)
  | .str x, .str y => decide (x = y)
  | _, _ => false
def notSet : Expr → Bool
  | .Set _ _ _ => false
  | _ => true
def notSl : Expr → Bool
  | .Slice _ _ _ _ => false
  | _ => true
def isTupE : Expr → Bool
  | .Tuple _ _ _ => true
  | _ => false
def biN : Bi → String
  | .len => "len" | .abs => "abs" | .int => "int" | .bool => "bool" | .tup => "tuple" | .lst => "list" | .srt => "sorted" | .sum => "sum"
  | .min1 => "min" | .max1 => "max" | .min2 => "min" | .max2 => "max" | .all => "all" | .any => "any" | .repr => "repr" | .ssrt => "sorted"
def biAr : Bi → Nat
  | .min2 => 2 | .max2 => 2 | _ => 1
def mtN : Mt → String
  | .index => "index" | .join => "join" | .split => "split"
def Es.len : Es → Nat
  | .nil => 0
  | .cons _ es => es.len + 1
/-- the block's own names with their slots -/
def ownOf (N : List Str) (w : List Nat) : List (Str × Nat) := w.filterMap fun i => (N[i]?).map fun x => (x, i)
def Mc.blk (M : Mc) (scope : Scope) : Mc := { M with sc := relS scope M.sc, fn := fun x => scope.names.lookup x == some .cell }
/-- a name that may be stored to -/
def tgB (M : Mc) (x : Str) : Bool := lclB M.sc x || (locB M.sc x && M.fn x)
def tgIn (w : List Nat) : Tg → Bool
  | .nm i => w.contains i
  | .tp is => is.all w.contains
def tyB (sc : Scope) (t : String) : Expr → Bool
  | .Name x _ => decide (x = Str.ofString t) && gloB sc x && ["int", "bool", "str", "tuple", "list"].contains t
  | _ => false
def tysB (sc : Scope) : List String → List Expr → Bool
  | [], [] => true
  | t :: ts, e :: es => tyB sc t e && tysB sc ts es
  | _, _ => false
def kwB : List Str → List Keyword → Bool
  | [], [] => true
  | k :: ks, ⟨some n, _, _⟩ :: r => decide (n = k) && kwB ks r
  | _, _ => false
def kwV : List Keyword → List Expr
  | [] => []
  | ⟨_, e, _⟩ :: r => e :: kwV r
def strTs (M : Mc) : List Nat → List Expr → Bool
  | [], [] => true
  | i :: is, .Name x _ :: es => slotB M.N i x && tgB M x && strTs M is es
  | _, _ => false
/-- a target; own: the names of a comprehension's block (then each target must be one of them) -/
def matT (M : Mc) : Tg → Expr → Bool
  | .nm i, .Name x _ => slotB M.N i x && tgB M x
  | .tp is, .Tuple es _ _ => M.calm && strTs M is es
  | _, _ => false

/-- sorted(set(e)) -/
def ssArg : Expr → Option (Str × Str × Expr)
  | .Call (.Name x _) [.Call (.Name y _) [e] [] _] [] _ => some (x, y, e)
  | _ => none
/-- tuple(range(..)) -/
def rgParts : Expr → Option (Str × Str × List Expr)
  | .Call (.Name x _) [.Call (.Name y _) xs [] _] [] _ => some (x, y, xs)
  | _ => none
def rgN (t : Bool) : Str := if t then ("tuple" : Str) else ("list" : Str)
/-- what a method is called of: no call -/
def plainO : Expr → Bool
  | .Name _ _ => true
  | .Subscript _ _ _ => true
  | .ListComp _ _ _ _ => true
  | .Constant _ _ _ => true
  | _ => false
/-- o.n(..) -/
def mtParts : Expr → Option (Expr × Str × List Expr)
  | .Call (.Attribute o n ap) xs [] p => if (ap.endLine == p.line) = true then some (o, n, xs) else none
  | _ => none
/-- isinstance(e, T), isinstance(e, (T, ..)): one type here -/
def isParts : Expr → Option (Str × Expr × List Expr)
  | .Call (.Name x _) [e, .Name y p] [] _ => some (x, e, [.Name y p])
  | _ => none
/-- a comprehension with one for -/
def lcParts : Expr → Option (Expr × Comprehension × Scope)
  | .ListComp x [g] scope _ => if g.is_async = 0 then some (x, g, scope) else none
  | _ => none
def dcParts : Expr → Option (Expr × Expr × Comprehension × Scope)
  | .DictComp x y [g] scope _ => if g.is_async = 0 then some (x, y, g, scope) else none
  | _ => none
/-- sorted({.. for ..}) -/
def scParts : Expr → Option (Str × Expr × Comprehension × Scope)
  | .Call (.Name y _) [.SetComp x [g] scope _] [] _ => if g.is_async = 0 then some (y, x, g, scope) else none
  | _ => none
def lc2Parts : Expr → Option (Expr × Comprehension × Comprehension × Scope)
  | .ListComp x [g, g1] scope _ => if g.is_async = 0 ∧ g1.is_async = 0 then some (x, g, g1, scope) else none
  | _ => none
/-- a test that is its value's truth -/
def plainT : Expr → Bool
  | .UnaryOp .Not _ _ => false
  | .BoolOp _ _ _ => false
  | .IfExp _ _ _ _ => false
  | .Compare _ _ _ _ => false
  | _ => true
/-- its value may be kept -/
def stg : Ex → Bool
  | .peek _ => false
  | .ite _ a b => stg a && stg b
  | .bop _ a b => stg a && stg b
  | _ => true
def stgs : Es → Bool
  | .nil => true
  | .cons a es => stg a && stgs es
def stgI : It → Bool
  | .seq a => stg a
  | .rng _ => true
  | .zip a b => stg a && stg b
  | .zips a => stg a
  | .enu a => stg a
/-- its value is a new list (dict) -/
def frs : Ex → Bool
  | .lst _ => true | .lc _ _ _ _ _ => true | .lc2 _ _ _ _ _ _ _ _ => true | .dcK _ _ _ _ _ => true | .dcT _ _ _ _ _ => true
  | .bi .lst _ => true | .bi .srt _ => true | .bi .ssrt _ => true | .ssc _ _ _ _ _ => true
  | .bin .add _ _ => true
  | .bin .mul _ _ => true
  | .slc _ _ _ => true | .rev _ => true | .dE _ => true | .mt .split _ _ => true
  | .rg1 t _ => !t | .rg2 t _ _ => !t
  | .ite _ a b => frs a && frs b
  | _ => false
mutual
def mat (M : Mc) : Ex → Expr → Bool
  | .var i, .Name x _ => slotB M.N i x && visB M.sc x
  | .peek i, .Name x _ => slotB M.N i x && visB M.sc x
  | .glb y, .Name x _ => decide (x = y) && gloB M.sc x
  | .kon k, .Constant c _ _ => konB k c
  | .un o a, .UnaryOp op x _ => unB o op && mat M a x
  | .nt a, .UnaryOp .Not x _ => mat M a x
  | .bin o a b, .BinOp x op y _ => boB o op && mat M a x && mat M b y
  | .cmp o a b, .Compare x [op] [y] _ => coB o op && notSet y && mat M a x && mat M b y
  | .chn o p a b c, .Compare x [op, oq] [y, z] _ => coB o op && coB p oq && notSet y && notSet z && mat M a x && mat M b y && mat M c z
  | .bop k a b, .BoolOp op (x :: y :: r) pos => bopB k op && mat M a x && (match r with
      | [] => mat M b y
      | _ :: _ => mat M b (.BoolOp op (y :: r) pos))
  | .ite c a b, .IfExp x y z _ => mat M c x && mat M a y && mat M b z
  | .idx a i, .Subscript x y _ => notSl y && mat M a x && mat M i y
  | .slc a lo hi, .Subscript x (.Slice l h none _) _ => mat M a x && matO M lo l && matO M hi h
  | .dE _, .Dict [] [] _ => true
  | .rev a, .Subscript x (.Slice none none (some (.UnaryOp .USub (.Constant (.int 1) _ _) _)) _) _ => mat M a x
  | .tup es, .Tuple xs _ _ => stgs es && mats M es xs
  | .lst es, .List xs _ => stgs es && mats M es xs
  | .cal f es ks, .Call (.Name x _) xs kws _ => decide (x = f) && gloB M.sc x && kwB ks kws && stgs es && mats M es (xs ++ kwV kws) && M.calm
  | .bi .ssrt (.cons a .nil), e => (match ssArg e with
      | some (x, y, e') => decide (x = ("sorted" : Str)) && gloB M.sc x && decide (y = ("set" : Str)) && gloB M.sc y && mat M a e' && M.calm
      | none => false)
  | .bi b es, .Call (.Name x _) xs [] _ => (match b with | .ssrt => false | _ => true) && decide (x = Str.ofString (biN b)) && gloB M.sc x && decide (es.len = biAr b) && mats M es xs && M.calm
  | .mt m a es, e => (match mtParts e with
      | some (o, n, xs) => decide (n = Str.ofString (mtN m)) && plainO o && mat M a o && mats M es xs && decide (es.len = 1) && M.calm
      | none => false)
  | .lc w t it c el, e => (match lcParts e with
      | some (x, ⟨tg, iter, ifs, _⟩, scope) => blkC M.N M.sc scope (ownOf M.N w) && decide ((ownOf M.N w).map (·.2) = w) && notSet iter && matI M it iter tg && tgIn w t &&
          matT (M.blk scope) t tg && matC (M.blk scope) c ifs && stg el && mat (M.blk scope) el x && M.calm
      | none => false)
  | .ssc w t it c el, e => (match scParts e with
      | some (y, x, ⟨tg, iter, ifs, _⟩, scope) => decide (y = ("sorted" : Str)) && gloB M.sc y && blkC M.N M.sc scope (ownOf M.N w) && decide ((ownOf M.N w).map (·.2) = w) && notSet iter && matI M it iter tg && tgIn w t &&
          matT (M.blk scope) t tg && matC (M.blk scope) c ifs && stg el && mat (M.blk scope) el x && M.calm
      | none => false)
  | .dcK w t it k v, e => (match dcParts e with
      | some (x, y, ⟨tg, iter, ifs, _⟩, scope) => blkC M.N M.sc scope (ownOf M.N w) && decide ((ownOf M.N w).map (·.2) = w) && notSet iter && matI M it iter tg && tgIn w t &&
          matT (M.blk scope) t tg && ifs.isEmpty && stg k && mat (M.blk scope) k x && stg v && mat (M.blk scope) v y && M.calm
      | none => false)
  | .dcT w t it k v, e => (match dcParts e with
      | some (x, y, ⟨tg, iter, ifs, _⟩, scope) => blkC M.N M.sc scope (ownOf M.N w) && decide ((ownOf M.N w).map (·.2) = w) && notSet iter && matI M it iter tg && tgIn w t &&
          matT (M.blk scope) t tg && ifs.isEmpty && stg k && mat (M.blk scope) k x && stg v && mat (M.blk scope) v y && M.calm
      | none => false)
  | .lc2 w w1 t it t1 it1 c el, e => (match lc2Parts e with
      | some (x, ⟨tg, iter, ifs, _⟩, ⟨tg1, iter1, ifs1, _⟩, scope) => blkC M.N M.sc scope (ownOf M.N w) && decide ((ownOf M.N w).map (·.2) = w) && notSet iter && notSet iter1 && matI M it iter tg && tgIn w t && w1.all w.contains && tgIn w1 t1 &&
          matT (M.blk scope) t tg && ifs.isEmpty && stgI it1 && matI (M.blk scope) it1 iter1 tg1 && matT (M.blk scope) t1 tg1 && matC (M.blk scope) c ifs1 && stg el && mat (M.blk scope) el x && M.calm
      | none => false)
  | .isi a ts, e => (match isParts e with
      | some (x, y, tys) => decide (x = ("isinstance" : Str)) && gloB M.sc x && mat M a y && tysB M.sc ts tys
      | none => false)
  | .gix x k, e => (match mtParts e with
      | some (.Name y _, n, [z]) => decide (y = x) && gloB M.sc x && decide (n = ("index" : Str)) && mat M k z && M.calm
      | _ => false)
  | .new a, e => frs a && plainT e && mat M a e
  | .rg1 t a, e => (match rgParts e with
      | some (x, y, [u]) => decide (x = rgN t) && gloB M.sc x && decide (y = ("range" : Str)) && gloB M.sc y && mat M a u && M.calm
      | _ => false)
  | .rg2 t a b, e => (match rgParts e with
      | some (x, y, [u, v]) => decide (x = rgN t) && gloB M.sc x && decide (y = ("range" : Str)) && gloB M.sc y && mat M a u && mat M b v && M.calm
      | _ => false)
  | .popR a i, e => (match mtParts e with
      | some (o, n, xs) => decide (n = ("pop" : Str)) && plainO o && mat M a o && M.calm && (match i, xs with
        | .no, [] => true
        | .so k, [y] => mat M k y
        | _, _ => false)
      | none => false)
  | .exf i f, .Attribute (.Name x _) n _ => slotB M.N i x && visB M.sc x && decide (n = f) && !M.calm
  | _, _ => false
def mats (M : Mc) : Es → List Expr → Bool
  | .nil, [] => true
  | .cons a es, x :: xs => mat M a x && mats M es xs
  | _, _ => false
def matO (M : Mc) : Op → Option Expr → Bool
  | .no, none => true
  | .so a, some x => mat M a x
  | _, _ => false
def matC (M : Mc) : Op → List Expr → Bool
  | .no, [] => true
  | .so a, [x] => mat M a x
  | _, _ => false
def matI (M : Mc) : It → Expr → Expr → Bool
  | .seq a, x, _ => mat M a x
  | .rng es, .Call (.Name x _) xs [] _, _ => decide (x = ("range" : Str)) && gloB M.sc x && decide (1 ≤ es.len) && decide (es.len ≤ 3) && mats M es xs
  | .zip a b, .Call (.Name x _) [y, z] [] _, tg => decide (x = ("zip" : Str)) && gloB M.sc x && mat M a y && mat M b z && isTupE tg
  | .enu a, .Call (.Name x _) [y] [] _, tg => decide (x = ("enumerate" : Str)) && gloB M.sc x && mat M a y && isTupE tg
  | _, _, _ => false
end
end Nb
end
section
set_option Elab.async false
set_option linter.all false
set_option maxRecDepth 100000
/-! NbD: readings by the evaluator; contexts -/
namespace Nb
open PySem PySem.Spec PyProof.Rows L2

/-- what is wanted behind an evaluation -/
def After (K : PySem.W.Frag) (W : WX) (σ : L2.St) (F : Hp) (R : List Addr) (H : Hp) {α : Type} (r : Res α) (G : α → Sto → Hp → List Addr → Hp → Prop) : Prop := match r with
  | .ok a st' => ∀ F' R' H', Grow F R H F' R' H' → StOk K F' R' H' st' → G a st' F' R' H'
  | .exc c fs st' => ∀ F' R' H' d, Grow F R H F' R' H' → StOk K F' R' H' st' → XFs K F' R' H' fs d → W (.ref (gAt K c)) d σ H'
  | .bad => False
section
variable {K : PySem.W.Frag} {W : WX} {σ : L2.St} {F : Hp} {R : List Addr} {H : Hp} {α β : Type}
theorem After.bind {r : Res α} {f : α → Sto → Res β} {G : β → Sto → Hp → List Addr → Hp → Prop} (h : After K W σ F R H (r.bind f) G) :
    After K W σ F R H r fun a st1 F1 R1 H1 => After K W σ F1 R1 H1 (f a st1) G := by
  cases r with
  | bad => exact h
  | exc c fs st => exact h
  | ok a st =>
    have h : After K W σ F R H (f a st) G := h
    intro F1 R1 H1 g so
    cases e : f a st with
    | bad => rw [e] at h; exact h
    | exc c fs st2 =>
      rw [e] at h
      exact fun F2 R2 H2 d g2 so2 x => h F2 R2 H2 d (g.trans g2) so2 x
    | ok b st2 =>
      rw [e] at h
      exact fun F2 R2 H2 g2 so2 => h F2 R2 H2 (g.trans g2) so2
theorem After.imp {r : Res α} {G G' : α → Sto → Hp → List Addr → Hp → Prop} (h : After K W σ F R H r G)
    (i : ∀ a st' F' R' H', Grow F R H F' R' H' → StOk K F' R' H' st' → G a st' F' R' H' → G' a st' F' R' H') : After K W σ F R H r G' := by
  cases r with
  | bad => exact h
  | exc c fs st => exact h
  | ok a st => exact fun F' R' H' g so => i a st F' R' H' g so (h F' R' H' g so)
theorem After.ofO {o : Option α} {st : Sto} {G : α → Sto → Hp → List Addr → Hp → Prop} (h : After K W σ F R H (ofO o st) G) :
    ∃ a, o = some a ∧ ∀ F' R' H', Grow F R H F' R' H' → StOk K F' R' H' st → G a st F' R' H' := by
  cases o with
  | none => exact h.elim
  | some a => exact ⟨a, rfl, h⟩
/-- with the equation -/
theorem After.eqn {r : Res α} {G : α → Sto → Hp → List Addr → Hp → Prop} (h : After K W σ F R H r G) : After K W σ F R H r fun a st' F' R' H' => r = .ok a st' ∧ G a st' F' R' H' := by
  cases r with
  | bad => exact h
  | exc c fs st => exact h
  | ok a st => exact fun F' R' H' g so => ⟨rfl, h F' R' H' g so⟩
/-- here and now -/
theorem After.here {a : α} {st : Sto} {G : α → Sto → Hp → List Addr → Hp → Prop} (h : After K W σ F R H (.ok a st) G) (so : StOk K F R H st) : G a st F R H := h F R H .refl so
end

inductive Md where | s | t | f
/-- how the value lies -/
def RR (m : Md) (K : PySem.W.Frag) (H0 : Hp) (F : Hp) (R : List Addr) (H : Hp) (d : D) (v : V) : Prop := match m with
  | .s => Rel K F R d v
  | .t => RelT K F R H d v
  | .f => ∃ p, v = .ref p ∧ H0 p = none ∧ F p = none ∧ p ∉ R ∧ OwnR K F R H p d
/-- a new object is asked of what is one -/
def okM (m : Md) (d : D) : Prop := match m with
  | .f => isOwn d = true
  | _ => True
def tE (m : Md) (K : PySem.W.Frag) (EX : EXT) (W : WX) (f : Enw → Sto → Res D) : TE := fun σ H Q =>
  ∃ F R env st, StOk K F R H st ∧ EnvOk K EX F R H env σ ∧ After K W σ F R H (f env st) fun d _ F' R' H' => okM m d ∧ ∀ v, RR m K H F' R' H' d v → Q v H'
def tT (K : PySem.W.Frag) (EX : EXT) (W : WX) (f : Enw → Sto → Res Bool) : TT := fun σ H Q =>
  ∃ F R env st, StOk K F R H st ∧ EnvOk K EX F R H env σ ∧ After K W σ F R H (f env st) fun b _ _ _ H' => Q b H'
/-- arguments: strong, weak -/
def RRs (m : Md) (K : PySem.W.Frag) (F : Hp) (R : List Addr) (H : Hp) : List D → List V → Prop
  | [], vs => vs = []
  | d :: ds, vs => ∃ v ws, vs = v :: ws ∧ RR m K H F R H d v ∧ RRs m K F R H ds ws
def tA (m : Md) (K : PySem.W.Frag) (EX : EXT) (W : WX) (f : Enw → Sto → Res (List D)) : TA := fun σ H Q =>
  ∃ F R env st, StOk K F R H st ∧ EnvOk K EX F R H env σ ∧ After K W σ F R H (f env st) fun ds _ F' R' H' => ∀ vs, RRs m K F' R' H' ds vs → Q vs H'
theorem pe_imp {X : Cx} {e : Expr} {t t' : TE} (h : PE X e t) (i : ∀ σ H Q, t' σ H Q → t σ H Q) : PE X e t' := ⟨fun pins s σ H Q I q => h.run pins s σ H Q I (i σ H Q q)⟩
theorem pt_imp {X : Cx} {e : Expr} {t t' : TT} (h : PT X e t) (i : ∀ σ H Q, t' σ H Q → t σ H Q) : PT X e t' := ⟨fun pins s σ H Q I q => h.run pins s σ H Q I (i σ H Q q)⟩
theorem pa_imp {X : Cx} {es : List Expr} {t t' : TA} (h : PA X es t) (i : ∀ σ H Q, t' σ H Q → t σ H Q) : PA X es t' := ⟨fun pos pins s σ H Q I q => h.run pos pins s σ H Q I (i σ H Q q)⟩
theorem ps_imp {X : Cx} {e : Stmt} {t t' : TS} (h : PS X e t) (i : ∀ D σ H, t' D σ H → t D σ H) : PS X e t' := ⟨fun pins s σ H D I q => h.run pins s σ H D I (i D σ H q)⟩
theorem pss_imp {X : Cx} {e : List Stmt} {t t' : TS} (h : PSs X e t) (i : ∀ D σ H, t' D σ H → t D σ H) : PSs X e t' := ⟨fun pins s σ H D I q => h.run pins s σ H D I (i D σ H q)⟩
section
variable {K : PySem.W.Frag} {EX : EXT} {W : WX} {X : Cx} {e : Expr} {f : Enw → Sto → Res D} {F F' : Hp} {R R' : List Addr} {H H' : Hp} {d : D} {v : V}
theorem Own.rel {p : Addr} {o : HO} (h : OwnR K F R H p d) (hf : F p = none) (ho : H p = some o) : Rel K (upd F p o) R d (.ref p) := by
  have hs : Same F (upd F p o) := fun b u e => by rw [upd_ne (ne_of_none e hf)]; exact e
  cases d with
  | lst ds =>
    obtain ⟨vs, h1, h2⟩ := h
    rw [h1] at ho; cases ho
    unfold Rel
    exact ⟨p, vs, rfl, upd_same, h2.mono hs List.prefix_rfl⟩
  | dk ks ds =>
    obtain ⟨vs, h1, h3, h2⟩ := h
    rw [h1] at ho; cases ho
    unfold Rel
    exact ⟨p, vs, rfl, upd_same, h3, h2.mono hs List.prefix_rfl⟩
  | dt ks ds =>
    obtain ⟨vs, h1, h3, h2⟩ := h
    rw [h1] at ho; cases ho
    unfold Rel
    exact ⟨p, vs, rfl, upd_same, h3, h2.mono hs List.prefix_rfl⟩
  | ins c fs ds =>
    obtain ⟨dx, vs, h1, h3, h2⟩ := h
    rw [h1] at ho; cases ho
    unfold Rel
    exact ⟨p, dx, vs, rfl, upd_same, h3, h2.mono hs List.prefix_rfl⟩
  | _ => exact h.elim
theorem tE.f_s (ow : ∀ env st d st', f env st = .ok d st' → isOwn d = true) {σ : L2.St} {Q : VK} (h : tE .s K EX W f σ H Q) : tE .f K EX W f σ H Q := by
  obtain ⟨F, R, env, st, so, eo, h⟩ := h
  refine ⟨F, R, env, st, so, eo, ?_⟩
  cases e : f env st with
  | bad => rw [e] at h; exact h
  | exc c fs st' => rw [e] at h; exact h
  | ok d st' =>
    rw [e] at h
    intro F' R' H' g so'
    refine ⟨ow _ _ _ _ e, fun v hv => ?_⟩
    obtain ⟨p, rfl, h0, hf, hr, ow⟩ := hv
    obtain ⟨o, ho⟩ := ow.ex
    exact (h (upd F' p o) R' H' (g.frz hf h0) (so'.frz ho hf hr)).2 _ (Own.rel ow hf ho)
theorem pe_sf (ow : ∀ env st d st', f env st = .ok d st' → isOwn d = true) (h : PE X e (tE .f K EX W f)) : PE X e (tE .s K EX W f) := pe_imp h fun _ _ _ q => q.f_s ow
theorem pe_ts (h : PE X e (tE .s K EX W f)) : PE X e (tE .t K EX W f) := pe_imp h fun σ H Q ⟨F, R, env, st, so, eo, h⟩ =>
  ⟨F, R, env, st, so, eo, h.imp fun a st' F' R' H' _ _ q => ⟨trivial, fun v hv => q.2 v (.inl hv)⟩⟩
end

/-- a def's promise by the evaluator -/
def spD (K : PySem.W.Frag) (n : Nat) (c : List D → Sto → Res D) : Sp := fun vs H Q E => ∃ F R st ds, ds.length = n ∧ StOk K F R H st ∧ Rels K F R ds vs ∧ (match c ds st with
  | .ok d st' => ∀ F' R' H' v, Grow F R H F' R' H' → StOk K F' R' H' st' → Rel K F' R' d v → Q v H'
  | .exc x fs st' => ∀ F' R' H' d, Grow F R H F' R' H' → StOk K F' R' H' st' → XFs K F' R' H' fs d → E (.ref (gAt K x)) d H'
  | .bad => False)
/-- as FnOk, and no repr is running -/
structure FnG (P : Program) (w : World) (K : PySem.W.Frag) (mg : Str → Option Value) (base : Heap) (k : Nat) (f : Addr) (fd : FuncData) (ps : List Str) (sp : Sp) : Prop where
  len : ∀ vs H Q E, sp vs H Q E → vs.length = ps.length
  run : ∀ (A : Around) (outer : List Env) (s : Shared) (H : Hp) (args : Args) (us : List Value) (vs : List V) (Q : VK) (E : XK), Room k A → A.guards = some [] → Env0 P w K mg base A outer s H → BindsTo s fd args (ps.zip us) → Vals vs us → sp vs H Q E →
    codeAny (model P w) A (.call (.ref f) args) (CR (L2.CX P w) outer P w H s Q E) s

/-- how a call with keywords binds -/
def KB (K : PySem.W.Frag) (fd : FuncData) (ps : List Str) (n : Nat) (ks : List Str) (p : List Nat) : Prop := ∀ (s : Shared) (us ws zs : List Value), K.In s.heap → us.length = n → ws.length = ks.length → permL p (us ++ ws) = some zs → BindsTo s fd ⟨us, ks.zip ws⟩ (ps.zip zs)
/-- a field of the caught error -/
def tXfD (K : PySem.W.Frag) (EX : EXT) (T : Tb) (f : Str) (te : TE) : TE := fun σ H Q => te σ H fun x H1 => ∃ a c d dd fs v, x = .ref a ∧ EX a (.ref (gAt K c)) d ∧ fieldB T c f = true ∧ d = some dd ∧ H1 dd = some (.xd fs) ∧ fs.lookup f = some v ∧ Q v H1
def bltNames : List Str := ["len", "abs", "int", "bool", "tuple", "list", "sorted", "sum", "min", "max", "all", "any", "repr", "set", "range", "zip", "enumerate", "isinstance", "str"]
structure Ctx (T : Tb) (cl : Cl) (X : Cx) (M : Mc) (EX : EXT) (W : WX) : Prop where
  sc : X.env.scope = M.sc
  N : X.N = M.N
  nd : X.N.Nodup
  calm : M.calm = true → X.calm = true
  guards : X.A.guards = some []
  units : X.A.units + 200 < cLine
  fn : ∀ x, M.fn x = true → X.fn x = true
  tk : Takes X W
  blt : ∀ x ∈ bltNames, X.mg x = none
  con : ∀ x d, T.g x = some d → ∃ v u, X.mg x = some u ∧ RelV v u ∧ ∀ F R, Rel X.K F R d v
  gti : ∀ x ns, T.gt x = some ns → ∃ a o, X.mg x = some (.ref a) ∧ (∀ H, SqT X.K H a (ns.map V.int)) ∧ X.K.lookup a = some o ∧ o.cls = .type "tuple" ∧ o.dict = none
  xf : M.calm = false → ∀ {e : Expr} {te : TE} {p : Pos} {f : Str}, plainO e = true → PE X e te → PE X (.Attribute e f p) (tXfD X.K EX T f te)
  cls : M.calm = true → ∀ f ps, T.fps f = some ps → ∃ k fa fd, X.mg f = some (.ref fa) ∧ PySem.W.keepIn X.K (.ref fa) = true ∧ Room k X.A ∧ FnG X.prog X.w X.K X.mg X.base k fa fd ps (spD X.K ps.length (cl f)) ∧ Binds X.K fd ps [] ∧ ∀ n ks p, T.kwp f n ks = some p → KB X.K fd ps n ks p
end Nb
end
section
set_option Elab.async false
set_option linter.all false
set_option maxRecDepth 100000
set_option maxHeartbeats 4000000
/-! NbE0: what a match says, case by case -/
namespace Nb
open PySem PySem.Spec PyProof.Rows L2
theorem ff {P : Prop} (h : false = true) : P := absurd h Bool.false_ne_true
theorem b2 {a b : Bool} (h : (a && b) = true) : a = true ∧ b = true := Bool.and_eq_true_iff.mp h
section
variable {M : Mc} {e : Expr}
theorem mat_var {i : Nat} (h : mat M (.var i) e = true) : ∃ x p, e = .Name x p ∧ slotB M.N i x = true ∧ visB M.sc x = true := by
  cases e <;> first | exact ff h | exact ⟨_, _, rfl, b2 h⟩
theorem mat_peek {i : Nat} (h : mat M (.peek i) e = true) : ∃ x p, e = .Name x p ∧ slotB M.N i x = true ∧ visB M.sc x = true := by
  cases e <;> first | exact ff h | exact ⟨_, _, rfl, b2 h⟩
theorem mat_glb {y : Str} (h : mat M (.glb y) e = true) : ∃ p, e = .Name y p ∧ gloB M.sc y = true := by
  cases e <;> first | exact ff h | skip
  obtain ⟨h1, h2⟩ := b2 h
  have h1 := of_decide_eq_true h1
  subst h1
  exact ⟨_, rfl, h2⟩
theorem mat_kon {k : Kon} (h : mat M (.kon k) e = true) : ∃ c j p, e = .Constant c j p ∧ konB k c = true := by
  cases e <;> first | exact ff h | exact ⟨_, _, _, rfl, h⟩
theorem mat_un {o : Uo} {a : Ex} (h : mat M (.un o a) e = true) : ∃ op x p, e = .UnaryOp op x p ∧ unB o op = true ∧ mat M a x = true := by
  cases e <;> first | exact ff h | exact ⟨_, _, _, rfl, b2 h⟩
theorem mat_nt {a : Ex} (h : mat M (.nt a) e = true) : ∃ x p, e = .UnaryOp .Not x p ∧ mat M a x = true := by
  cases e <;> first | exact ff h | skip
  rename_i op x p
  cases op <;> first | exact ff h | exact ⟨_, _, rfl, h⟩
theorem mat_bin {o : Bo} {a b : Ex} (h : mat M (.bin o a b) e = true) : ∃ x op y p, e = .BinOp x op y p ∧ boB o op = true ∧ mat M a x = true ∧ mat M b y = true := by
  cases e <;> first | exact ff h | skip
  obtain ⟨h1, h3⟩ := b2 h
  obtain ⟨h1, h2⟩ := b2 h1
  exact ⟨_, _, _, _, rfl, h1, h2, h3⟩
theorem mat_cmp {o : Co} {a b : Ex} (h : mat M (.cmp o a b) e = true) : ∃ x op y p, e = .Compare x [op] [y] p ∧ coB o op = true ∧ notSet y = true ∧ mat M a x = true ∧ mat M b y = true := by
  cases e <;> first | exact ff h | skip
  rename_i x ops ys p
  rcases ops with _ | ⟨op, _ | ⟨oq, ops⟩⟩ <;> rcases ys with _ | ⟨y, _ | ⟨z, ys⟩⟩ <;> first | exact ff h | skip
  obtain ⟨h1, h4⟩ := b2 h
  obtain ⟨h1, h3⟩ := b2 h1
  obtain ⟨h1, h2⟩ := b2 h1
  exact ⟨_, _, _, _, rfl, h1, h2, h3, h4⟩
theorem mat_chn {o q : Co} {a b c : Ex} (h : mat M (.chn o q a b c) e = true) : ∃ x op oq y z p, e = .Compare x [op, oq] [y, z] p ∧ coB o op = true ∧ coB q oq = true ∧ notSet y = true ∧ notSet z = true ∧ mat M a x = true ∧ mat M b y = true ∧ mat M c z = true := by
  cases e <;> first | exact ff h | skip
  rename_i x ops ys p
  rcases ops with _ | ⟨op, _ | ⟨oq, _ | ⟨_, ops⟩⟩⟩ <;> rcases ys with _ | ⟨y, _ | ⟨z, _ | ⟨_, ys⟩⟩⟩ <;> first | exact ff h | skip
  obtain ⟨h1, h7⟩ := b2 h
  obtain ⟨h1, h6⟩ := b2 h1
  obtain ⟨h1, h5⟩ := b2 h1
  obtain ⟨h1, h4⟩ := b2 h1
  obtain ⟨h1, h3⟩ := b2 h1
  obtain ⟨h1, h2⟩ := b2 h1
  exact ⟨_, _, _, _, _, _, rfl, h1, h2, h3, h4, h5, h6, h7⟩
theorem mat_bop {k : Bool} {a b : Ex} (h : mat M (.bop k a b) e = true) : ∃ x y r p, e = .BoolOp (if k then .And else .Or) (x :: y :: r) p ∧ mat M a x = true ∧ ((r = [] ∧ mat M b y = true) ∨ (r ≠ [] ∧ mat M b (.BoolOp (if k then .And else .Or) (y :: r) p) = true)) := by
  cases e <;> first | exact ff h | skip
  rename_i op vs p
  rcases vs with _ | ⟨x, _ | ⟨y, r⟩⟩ <;> first | exact ff h | skip
  have q : bopB k op = true ∧ mat M a x = true := by
    cases r with
    | nil => exact b2 (b2 h).1
    | cons z r => exact b2 (b2 h).1
  obtain ⟨h1, h2⟩ := q
  have e1 : op = if k then .And else .Or := by
    cases k <;> cases op <;> first | exact ff h1 | rfl
  subst e1
  refine ⟨x, y, r, p, rfl, h2, ?_⟩
  cases r with
  | nil => exact .inl ⟨rfl, (b2 h).2⟩
  | cons z r => exact .inr ⟨by simp, (b2 h).2⟩
theorem mat_ite {c a b : Ex} (h : mat M (.ite c a b) e = true) : ∃ x y z p, e = .IfExp x y z p ∧ mat M c x = true ∧ mat M a y = true ∧ mat M b z = true := by
  cases e <;> first | exact ff h | skip
  obtain ⟨h1, h3⟩ := b2 h
  obtain ⟨h1, h2⟩ := b2 h1
  exact ⟨_, _, _, _, rfl, h1, h2, h3⟩
theorem mat_idx {a i : Ex} (h : mat M (.idx a i) e = true) : ∃ x y p, e = .Subscript x y p ∧ notSl y = true ∧ mat M a x = true ∧ mat M i y = true := by
  cases e <;> first | exact ff h | skip
  obtain ⟨h1, h3⟩ := b2 h
  obtain ⟨h1, h2⟩ := b2 h1
  exact ⟨_, _, _, rfl, h1, h2, h3⟩
theorem mat_slc {a : Ex} {lo hi : Op} (h : mat M (.slc a lo hi) e = true) : ∃ x l g p q, e = .Subscript x (.Slice l g none p) q ∧ mat M a x = true ∧ matO M lo l = true ∧ matO M hi g = true := by
  cases e <;> first | exact ff h | skip
  rename_i x y q
  cases y <;> first | exact ff h | skip
  rename_i l g t p
  cases t <;> first | exact ff h | skip
  obtain ⟨h1, h3⟩ := b2 h
  obtain ⟨h1, h2⟩ := b2 h1
  exact ⟨_, _, _, _, _, rfl, h1, h2, h3⟩
theorem mat_dE {t : Bool} (h : mat M (.dE t) e = true) : ∃ p, e = .Dict [] [] p := by
  cases e <;> first | exact ff h | skip
  rename_i ks vs p
  cases ks <;> cases vs <;> first | exact ff h | exact ⟨_, rfl⟩
theorem mat_rev {a : Ex} (h : mat M (.rev a) e = true) : ∃ x k p1 p2 p3 q, e = .Subscript x (.Slice none none (some (.UnaryOp .USub (.Constant (.int 1) k p1) p2)) p3) q ∧ mat M a x = true := by
  cases e <;> first | exact ff h | skip
  rename_i x y q
  cases y <;> first | exact ff h | skip
  rename_i l g t p
  cases l <;> first | exact ff h | skip
  cases g <;> first | exact ff h | skip
  cases t <;> first | exact ff h | skip
  rename_i t
  cases t <;> first | exact ff h | skip
  rename_i op o p2
  cases op <;> first | exact ff h | skip
  cases o <;> first | exact ff h | skip
  rename_i c k p1
  cases c <;> first | exact ff h | skip
  rename_i i
  cases i <;> first | exact ff h | skip
  rename_i n
  rcases n with _ | _ | n <;> first | exact ff h | skip
  exact ⟨_, _, _, _, _, _, rfl, h⟩
theorem mat_tup {es : Es} (h : mat M (.tup es) e = true) : ∃ xs k p, e = .Tuple xs k p ∧ stgs es = true ∧ mats M es xs = true := by
  cases e <;> first | exact ff h | exact ⟨_, _, _, rfl, b2 h⟩
theorem mat_lst {es : Es} (h : mat M (.lst es) e = true) : ∃ xs p, e = .List xs p ∧ stgs es = true ∧ mats M es xs = true := by
  cases e <;> first | exact ff h | exact ⟨_, _, rfl, b2 h⟩
theorem mat_bi {b : Bi} {es : Es} (hb : b ≠ .ssrt) (h : mat M (.bi b es) e = true) : ∃ x p xs q, e = .Call (.Name x p) xs [] q ∧ x = Str.ofString (biN b) ∧ gloB M.sc x = true ∧ es.len = biAr b ∧ mats M es xs = true ∧ M.calm = true := by
  cases b <;> first | exact absurd rfl hb | skip
  all_goals (
    cases e <;> first | exact ff h | skip
    rename_i f xs ks q
    cases f <;> first | exact ff h | skip
    cases ks <;> first | exact ff h | skip
    obtain ⟨h1, h6⟩ := b2 h
    obtain ⟨h1, h5⟩ := b2 h1
    obtain ⟨h1, h4⟩ := b2 h1
    obtain ⟨h1, h3⟩ := b2 h1
    obtain ⟨h1, h2⟩ := b2 h1
    exact ⟨_, _, _, _, rfl, of_decide_eq_true h2, h3, of_decide_eq_true h4, h5, h6⟩)
theorem ssArg_eq {x y : Str} {e' : Expr} (h : ssArg e = some (x, y, e')) : ∃ p q r s, e = .Call (.Name x p) [.Call (.Name y q) [e'] [] r] [] s := by
  unfold ssArg at h
  split at h
  · cases h; exact ⟨_, _, _, _, rfl⟩
  · cases h
theorem mat_ssrt {a : Ex} (h : mat M (.bi .ssrt (.cons a .nil)) e = true) : ∃ x p y q y' r s, e = .Call (.Name x p) [.Call (.Name y q) [y'] [] r] [] s ∧ x = ("sorted" : Str) ∧ gloB M.sc x = true ∧ y = ("set" : Str) ∧ gloB M.sc y = true ∧ mat M a y' = true ∧ M.calm = true := by
  unfold mat at h
  cases e1 : ssArg e with
  | none => rw [e1] at h; exact ff h
  | some t =>
    obtain ⟨x, y, e'⟩ := t
    rw [e1] at h
    obtain ⟨p, q, r, s, rfl⟩ := ssArg_eq e1
    obtain ⟨h1, h6⟩ := b2 h
    obtain ⟨h1, h5⟩ := b2 h1
    obtain ⟨h1, h4⟩ := b2 h1
    obtain ⟨h1, h3⟩ := b2 h1
    obtain ⟨h1, h2⟩ := b2 h1
    exact ⟨_, _, _, _, _, _, _, rfl, of_decide_eq_true h1, h2, of_decide_eq_true h3, h4, h5, h6⟩
theorem mat_cal {f : Str} {es : Es} {ks : List Str} (h : mat M (.cal f es ks) e = true) : ∃ p xs kws q, e = .Call (.Name f p) xs kws q ∧ gloB M.sc f = true ∧ kwB ks kws = true ∧ stgs es = true ∧ mats M es (xs ++ kwV kws) = true ∧ M.calm = true := by
  cases e <;> first | exact ff h | skip
  rename_i g xs kws q
  cases g <;> first | exact ff h | skip
  obtain ⟨h1, h6⟩ := b2 h
  obtain ⟨h1, h5⟩ := b2 h1
  obtain ⟨h1, h4⟩ := b2 h1
  obtain ⟨h1, h3⟩ := b2 h1
  obtain ⟨h1, h2⟩ := b2 h1
  have h1 := of_decide_eq_true h1
  subst h1
  exact ⟨_, _, _, _, rfl, h2, h3, h4, h5, h6⟩
theorem mat_new {a : Ex} (h : mat M (.new a) e = true) : frs a = true ∧ plainT e = true ∧ mat M a e = true := by
  obtain ⟨h1, h2⟩ := b2 h
  exact ⟨(b2 h1).1, (b2 h1).2, h2⟩
theorem mats_nil {xs : List Expr} (h : mats M .nil xs = true) : xs = [] := by
  cases xs <;> first | rfl | exact ff h
theorem mats_cons {a : Ex} {es : Es} {xs : List Expr} (h : mats M (.cons a es) xs = true) : ∃ x r, xs = x :: r ∧ mat M a x = true ∧ mats M es r = true := by
  cases xs <;> first | exact ff h | exact ⟨_, _, rfl, b2 h⟩
theorem matO_no {o : Option Expr} (h : matO M .no o = true) : o = none := by
  cases o <;> first | rfl | exact ff h
theorem matO_so {a : Ex} {o : Option Expr} (h : matO M (.so a) o = true) : ∃ x, o = some x ∧ mat M a x = true := by
  cases o <;> first | exact ff h | exact ⟨_, rfl, h⟩
theorem matC_no {o : List Expr} (h : matC M .no o = true) : o = [] := by
  cases o <;> first | rfl | exact ff h
theorem matC_so {a : Ex} {o : List Expr} (h : matC M (.so a) o = true) : ∃ x, o = [x] ∧ mat M a x = true := by
  rcases o with _ | ⟨x, _ | ⟨y, o⟩⟩ <;> first | exact ff h | exact ⟨_, rfl, h⟩
end
section
variable {M : Mc} {e tg : Expr}
theorem matI_seq {a : Ex} (h : matI M (.seq a) e tg = true) : mat M a e = true := h
theorem matI_rng {es : Es} (h : matI M (.rng es) e tg = true) : ∃ p xs q, e = .Call (.Name "range" p) xs [] q ∧ gloB M.sc "range" = true ∧ 1 ≤ es.len ∧ es.len ≤ 3 ∧ mats M es xs = true := by
  cases e <;> first | exact ff h | skip
  rename_i f xs ks q
  cases f <;> cases ks <;> first | exact ff h | skip
  obtain ⟨h1, h5⟩ := b2 h
  obtain ⟨h1, h4⟩ := b2 h1
  obtain ⟨h1, h3⟩ := b2 h1
  obtain ⟨h1, h2⟩ := b2 h1
  have h1 := of_decide_eq_true h1
  subst h1
  exact ⟨_, _, _, rfl, h2, of_decide_eq_true h3, of_decide_eq_true h4, h5⟩
theorem matI_zip {a b : Ex} (h : matI M (.zip a b) e tg = true) : ∃ p y z q, e = .Call (.Name "zip" p) [y, z] [] q ∧ gloB M.sc "zip" = true ∧ mat M a y = true ∧ mat M b z = true ∧ isTupE tg = true := by
  cases e <;> first | exact ff h | skip
  rename_i f xs ks q
  cases f <;> rcases xs with _ | ⟨y, _ | ⟨z, _ | ⟨_, xs⟩⟩⟩ <;> cases ks <;> first | exact ff h | skip
  obtain ⟨h1, h5⟩ := b2 h
  obtain ⟨h1, h4⟩ := b2 h1
  obtain ⟨h1, h3⟩ := b2 h1
  obtain ⟨h1, h2⟩ := b2 h1
  have h1 := of_decide_eq_true h1
  subst h1
  exact ⟨_, _, _, _, rfl, h2, h3, h4, h5⟩
theorem matI_enu {a : Ex} (h : matI M (.enu a) e tg = true) : ∃ p y q, e = .Call (.Name "enumerate" p) [y] [] q ∧ gloB M.sc "enumerate" = true ∧ mat M a y = true ∧ isTupE tg = true := by
  cases e <;> first | exact ff h | skip
  rename_i f xs ks q
  cases f <;> rcases xs with _ | ⟨y, _ | ⟨_, xs⟩⟩ <;> cases ks <;> first | exact ff h | skip
  obtain ⟨h1, h4⟩ := b2 h
  obtain ⟨h1, h3⟩ := b2 h1
  obtain ⟨h1, h2⟩ := b2 h1
  have h1 := of_decide_eq_true h1
  subst h1
  exact ⟨_, _, _, rfl, h2, h3, h4⟩
theorem isTupE_ok (h : isTupE tg = true) : ∃ es k p, tg = .Tuple es k p := by
  cases tg <;> first | exact ff h | exact ⟨_, _, _, rfl⟩
end
theorem mtParts_eq {e o : Expr} {n : Str} {xs : List Expr} (h : mtParts e = some (o, n, xs)) : ∃ ap p, e = .Call (.Attribute o n ap) xs [] p ∧ (ap.endLine == p.line) = true := by
  unfold mtParts at h
  split at h
  · split at h
    · cases h; exact ⟨_, _, rfl, by assumption⟩
    · cases h
  · cases h
theorem isParts_eq {e y : Expr} {x : Str} {ts : List Expr} (h : isParts e = some (x, y, ts)) : ∃ p z q r, e = .Call (.Name x p) [y, .Name z q] [] r ∧ ts = [.Name z q] := by
  unfold isParts at h
  split at h
  · cases h; exact ⟨_, _, _, _, rfl, rfl⟩
  · cases h
theorem mat_isi {M : Mc} {e : Expr} {a : Ex} {ts : List String} (h : mat M (.isi a ts) e = true) : ∃ p y z q r t, e = .Call (.Name "isinstance" p) [y, .Name z q] [] r ∧ gloB M.sc "isinstance" = true ∧ mat M a y = true ∧ ts = [t] ∧ z = Str.ofString t ∧ gloB M.sc z = true ∧ (t = "int" ∨ t = "bool" ∨ t = "str" ∨ t = "tuple" ∨ t = "list") := by
  unfold mat at h
  cases e1 : isParts e with
  | none => rw [e1] at h; exact ff h
  | some q =>
    obtain ⟨x, y, tys⟩ := q
    rw [e1] at h
    obtain ⟨p, z, q, r, rfl, rfl⟩ := isParts_eq e1
    obtain ⟨h1, h4⟩ := b2 h
    obtain ⟨h1, h3⟩ := b2 h1
    obtain ⟨h1, h2⟩ := b2 h1
    have h1 := of_decide_eq_true h1
    subst h1
    rcases ts with _ | ⟨t, _ | ⟨u, ts⟩⟩
    · exact ff h4
    · obtain ⟨h5, _⟩ := b2 h4
      obtain ⟨h5, h7⟩ := b2 h5
      obtain ⟨h5, h6⟩ := b2 h5
      exact ⟨_, _, _, _, _, _, rfl, h2, h3, rfl, of_decide_eq_true h5, h6, by simpa using h7⟩
    · obtain ⟨_, h5⟩ := b2 h4
      exact ff h5
theorem mat_mt {M : Mc} {e : Expr} {m : Mt} {a : Ex} {es : Es} (h : mat M (.mt m a es) e = true) : ∃ o ap xs p, e = .Call (.Attribute o (Str.ofString (mtN m)) ap) xs [] p ∧ (ap.endLine == p.line) = true ∧ plainO o = true ∧ mat M a o = true ∧ mats M es xs = true ∧ es.len = 1 ∧ M.calm = true := by
  unfold mat at h
  cases e1 : mtParts e with
  | none => rw [e1] at h; exact ff h
  | some q =>
    obtain ⟨o, n, xs⟩ := q
    rw [e1] at h
    obtain ⟨ap, p, rfl, h0⟩ := mtParts_eq e1
    obtain ⟨h1, h6⟩ := b2 h
    obtain ⟨h1, h5⟩ := b2 h1
    obtain ⟨h1, h4⟩ := b2 h1
    obtain ⟨h1, h3⟩ := b2 h1
    obtain ⟨h1, h2⟩ := b2 h1
    have h1 := of_decide_eq_true h1
    subst h1
    exact ⟨_, _, _, _, rfl, h0, h2, h3, h4, of_decide_eq_true h5, h6⟩
theorem mat_gix {M : Mc} {e : Expr} {x : Str} {k : Ex} (h : mat M (.gix x k) e = true) : ∃ q ap y p, e = .Call (.Attribute (.Name x q) "index" ap) [y] [] p ∧ (ap.endLine == p.line) = true ∧ gloB M.sc x = true ∧ mat M k y = true ∧ M.calm = true := by
  unfold mat at h
  cases e1 : mtParts e with
  | none => rw [e1] at h; exact ff h
  | some q =>
    obtain ⟨o, n, xs⟩ := q
    rw [e1] at h
    obtain ⟨ap, p, rfl, h0⟩ := mtParts_eq e1
    rcases xs with _ | ⟨z, _ | ⟨z', xs⟩⟩ <;> cases o <;> first | exact ff h | skip
    obtain ⟨h1, h5⟩ := b2 h
    obtain ⟨h1, h4⟩ := b2 h1
    obtain ⟨h1, h3⟩ := b2 h1
    obtain ⟨h1, h2⟩ := b2 h1
    have h1 := of_decide_eq_true h1
    have h3 := of_decide_eq_true h3
    subst h1 h3
    exact ⟨_, _, _, _, rfl, h0, h2, h4, h5⟩
theorem mat_exf {M : Mc} {e : Expr} {i : Nat} {f : Str} (h : mat M (.exf i f) e = true) : ∃ x q p, e = .Attribute (.Name x q) f p ∧ slotB M.N i x = true ∧ visB M.sc x = true ∧ M.calm = false := by
  cases e <;> first | exact ff h | skip
  rename_i o n p
  cases o <;> first | exact ff h | skip
  obtain ⟨k1, h4⟩ := b2 h
  obtain ⟨k2, k3⟩ := b2 k1
  obtain ⟨h1, h2⟩ := b2 k2
  have h3 : n = f := of_decide_eq_true k3
  rw [h3]
  exact ⟨_, _, _, rfl, h1, h2, by simpa using h4⟩
theorem mat_popR {M : Mc} {e : Expr} {a : Ex} {i : Op} (h : mat M (.popR a i) e = true) : ∃ o ap xs p, e = .Call (.Attribute o "pop" ap) xs [] p ∧ (ap.endLine == p.line) = true ∧ plainO o = true ∧ mat M a o = true ∧ M.calm = true ∧ ((i = .no ∧ xs = []) ∨ ∃ k y, i = .so k ∧ xs = [y] ∧ mat M k y = true) := by
  unfold mat at h
  cases e1 : mtParts e with
  | none => rw [e1] at h; exact ff h
  | some q =>
    obtain ⟨o, n, xs⟩ := q
    rw [e1] at h
    obtain ⟨ap, p, rfl, h0⟩ := mtParts_eq e1
    obtain ⟨h1, h5⟩ := b2 h
    obtain ⟨h1, h4⟩ := b2 h1
    obtain ⟨h1, h3⟩ := b2 h1
    obtain ⟨h1, h2⟩ := b2 h1
    have h1 := of_decide_eq_true h1
    subst h1
    refine ⟨_, _, _, _, rfl, h0, h2, h3, h4, ?_⟩
    cases i with
    | no => cases xs with
      | nil => exact .inl ⟨rfl, rfl⟩
      | cons _ _ => exact ff h5
    | so k =>
      rcases xs with _ | ⟨y, _ | ⟨z, xs⟩⟩
      · exact ff h5
      · exact .inr ⟨k, y, rfl, rfl, h5⟩
      · exact ff h5
theorem lcParts_eq {e x : Expr} {tg iter : Expr} {ifs : List Expr} {a : Int} {scope : Scope} (h : lcParts e = some (x, ⟨tg, iter, ifs, a⟩, scope)) : ∃ p, e = .ListComp x [⟨tg, iter, ifs, 0⟩] scope p := by
  unfold lcParts at h
  split at h
  · split at h
    · rename_i h0
      cases h
      have h0 : a = 0 := h0
      subst h0
      exact ⟨_, rfl⟩
    · cases h
  · cases h
theorem mat_lc {M : Mc} {e : Expr} {w : List Nat} {t : Tg} {it : It} {c : Op} {el : Ex} (h : mat M (.lc w t it c el) e = true) : ∃ x tg iter ifs scope p, e = .ListComp x [⟨tg, iter, ifs, 0⟩] scope p ∧ blkC M.N M.sc scope (ownOf M.N w) = true ∧ (ownOf M.N w).map (·.2) = w ∧ notSet iter = true ∧
    matI M it iter tg = true ∧ tgIn w t = true ∧ matT (M.blk scope) t tg = true ∧ matC (M.blk scope) c ifs = true ∧ stg el = true ∧ mat (M.blk scope) el x = true ∧ M.calm = true := by
  unfold mat at h
  cases e1 : lcParts e with
  | none => rw [e1] at h; exact ff h
  | some q =>
    obtain ⟨x, ⟨tg, iter, ifs, a⟩, scope⟩ := q
    rw [e1] at h
    obtain ⟨p, rfl⟩ := lcParts_eq e1
    obtain ⟨h1, h10⟩ := b2 h
    obtain ⟨h1, h9⟩ := b2 h1
    obtain ⟨h1, h8⟩ := b2 h1
    obtain ⟨h1, h7⟩ := b2 h1
    obtain ⟨h1, h6⟩ := b2 h1
    obtain ⟨h1, h5⟩ := b2 h1
    obtain ⟨h1, h4⟩ := b2 h1
    obtain ⟨h1, h3⟩ := b2 h1
    obtain ⟨h1, h2⟩ := b2 h1
    exact ⟨_, _, _, _, _, _, rfl, h1, of_decide_eq_true h2, h3, h4, h5, h6, h7, h8, h9, h10⟩
/-- what is matched is no star -/
theorem mat_star {M : Mc} {x : Expr} {p : Pos} : ∀ {a : Ex}, mat M a (.Starred x p) = true → False
  | .new a, h => mat_star (a := a) (b2 h).2
  | .bi b es, h => by
    cases b <;> first | exact ff h | skip
    cases es <;> first | exact ff h | skip
    rename_i a es
    cases es <;> exact ff h
  | .var _, h => ff h
  | .peek _, h => ff h
  | .glb _, h => ff h
  | .kon _, h => ff h
  | .un _ _, h => ff h
  | .nt _, h => ff h
  | .bin _ _ _, h => ff h
  | .cmp _ _ _, h => ff h
  | .chn _ _ _ _ _, h => ff h
  | .bop _ _ _, h => ff h
  | .ite _ _ _, h => ff h
  | .idx _ _, h => ff h
  | .slc _ _ _, h => ff h
  | .rev _, h => ff h
  | .dE _, h => ff h
  | .tup _, h => ff h
  | .lst _, h => ff h
  | .cal _ _ _, h => ff h
  | .mt m _ _, h => by cases m <;> exact ff h
  | .lc _ _ _ _ _, h => ff h
  | .lc2 _ _ _ _ _ _ _ _, h => ff h
  | .dcK _ _ _ _ _, h => ff h
  | .dcT _ _ _ _ _, h => ff h
  | .ssc _ _ _ _ _, h => ff h
  | .isi _ _, h => ff h
  | .popR _ _, h => ff h
  | .gix _ _, h => ff h
  | .exf _ _, h => ff h
  | .exi _ _, h => ff h
end Nb
end
section
set_option Elab.async false
set_option linter.all false
set_option maxRecDepth 100000
set_option maxHeartbeats 4000000
/-! NbE: expressions, one form at a time -/
namespace Nb
open PySem PySem.Spec PyProof.Rows L2

/-- in which mode a value is to be had -/
def gd : Md → Ex → Bool
  | .s, ir => stg ir
  | .t, _ => true
  | .f, ir => frs ir
structure Snd (T : Tb) (cl : Cl) (ir : Ex) : Prop where
  v : ∀ {X M EX W}, Ctx T cl X M EX W → ∀ {e}, mat M ir e = true → ∀ m, gd m ir = true → PE X e (tE m X.K EX W (sem T cl ir).v)
  b : ∀ {X M EX W}, Ctx T cl X M EX W → ∀ {e}, mat M ir e = true → PT X e (tT X.K EX W (sem T cl ir).b)
/-- the rest, from a value z that is ready -/
def Fin (m : Md) (K : PySem.W.Frag) (F : Hp) (R : List Addr) (H : Hp) (st : Sto) (z : D) (Q : VK) : Prop := ∀ F' R' H' v, Grow F R H F' R' H' → StOk K F' R' H' st → RR m K H F' R' H' z v → Q v H'
theorem RR.back {m : Md} {K : PySem.W.Frag} {H0 H1 : Hp} {F : Hp} {R : List Addr} {H : Hp} {d : D} {v : V} (hb : ∀ a, H1 a = none → H0 a = none) (h : RR m K H1 F R H d v) : RR m K H0 F R H d v := by
  cases m with
  | s => exact h
  | t => exact h
  | f => obtain ⟨p, h1, h2, h3⟩ := h; exact ⟨p, h1, hb _ h2, h3⟩
section
variable {K : PySem.W.Frag} {F : Hp} {R : List Addr} {H H0 : Hp} {st : Sto} {z : D} {Q : VK} {m : Md} {v : V}
theorem Fin.of {W : WX} {σ : L2.St} (so : StOk K F R H st) (hb : ∀ a, H a = none → H0 a = none) (h : ∀ F' R' H', Grow F R H F' R' H' → StOk K F' R' H' st → okM m z ∧ ∀ v, RR m K H0 F' R' H' z v → Q v H') : okM m z ∧ Fin m K F R H st z Q :=
  ⟨(h F R H .refl so).1, fun F' R' H' v g so' r => (h F' R' H' g so').2 v (r.back hb)⟩
theorem Fin.val (k : Fin m K F R H st z Q) (so : StOk K F R H st) (hm : m ≠ .f) (r : Rel K F R z v) : Q v H := by
  refine k F R H v .refl so ?_
  cases m with
  | s => exact r
  | t => exact .inl r
  | f => exact absurd rfl hm
theorem Fin.tup {ds : List D} {vs : List V} (k : Fin m K F R H st (.tup ds) Q) (so : StOk K F R H st) (hm : m ≠ .f) (r : Rels K F R ds vs) : ∀ p, H p = none → Q (.ref p) (upd H p (.tup vs)) := fun p hp => by
  have g : Grow F R H (upd F p (.tup vs)) R (upd H p (.tup vs)) := .new so.same hp
  have h : Rel K (upd F p (.tup vs)) R (.tup ds) (.ref p) := by
    unfold Rel
    exact ⟨p, vs, rfl, upd_same, r.mono g.sameF List.prefix_rfl⟩
  refine k _ _ _ _ g (so.new hp) ?_
  cases m with
  | s => exact h
  | t => exact .inl h
  | f => exact absurd rfl hm
theorem Fin.own {o : HO} (k : Fin m K F R H st z Q) (so : StOk K F R H st) {p : Addr} (hp : H p = none) (ow : OwnR K F R (upd H p o) p z) : Q (.ref p) (upd H p o) := by
  have hf : F p = none := so.same.free hp
  have hr : p ∉ R := fun hr => by
    obtain ⟨u, hu⟩ := so.there hr
    rw [hp] at hu; cases hu
  have h := Own.rel ow hf (o := o) upd_same
  cases m with
  | f => exact k F R _ _ (.newH hp) (so.newH hp) ⟨p, rfl, hp, hf, hr, ow⟩
  | s => exact k _ _ _ _ (Grow.new so.same hp) (so.new hp) h
  | t => exact k _ _ _ _ (Grow.new so.same hp) (so.new hp) (.inl h)
theorem Fin.lst {ds : List D} {vs : List V} (k : Fin m K F R H st (.lst ds) Q) (so : StOk K F R H st) (r : Rels K F R ds vs) : ∀ p, H p = none → Q (.ref p) (upd H p (.lst vs)) := fun p hp =>
  k.own so hp ⟨vs, upd_same, r⟩
theorem Fin.int {i : Int} (k : Fin m K F R H st (.int i) Q) (so : StOk K F R H st) (hm : okM m (.int i)) : Q (.int i) H := by
  refine k.val so (fun e => ?_) (by unfold Rel; rfl)
  subst e; exact absurd (show isOwn (.int i) = true from hm) Bool.false_ne_true
theorem Fin.bl {i : Bool} (k : Fin m K F R H st (.bl i) Q) (so : StOk K F R H st) (hm : okM m (.bl i)) : Q (.bl i) H := by
  refine k.val so (fun e => ?_) (by unfold Rel; rfl)
  subst e; exact absurd (show isOwn (.bl i) = true from hm) Bool.false_ne_true
theorem Fin.str {i : Str} (k : Fin m K F R H st (.str i) Q) (so : StOk K F R H st) (hm : okM m (.str i)) : Q (.str i) H := by
  refine k.val so (fun e => ?_) (by unfold Rel; rfl)
  subst e; exact absurd (show isOwn (.str i) = true from hm) Bool.false_ne_true
theorem okM_tup {ds : List D} (hm : okM m (.tup ds)) : m ≠ .f := fun e => by
  subst e; exact absurd (show isOwn (.tup ds) = true from hm) Bool.false_ne_true
end

section
variable {X : Cx} {M : Mc} {T : Tb} {cl : Cl} {EX : EXT} {W : WX} {x : Str} {i : Nat}
theorem Ctx.slot (c : Ctx T cl X M EX W) (h : slotB M.N i x = true) : X.N[i]? = some x := by
  rw [c.N]
  unfold slotB at h
  cases e : M.N[i]? with
  | none => rw [e] at h; cases h
  | some y => rw [e] at h; rw [of_decide_eq_true h]
theorem notDbg_1 (h : notDbg x = true) : (x == ("__debug__" : Str)) = false := by
  unfold notDbg at h
  cases e : (x == ("__debug__" : Str)) with
  | false => rfl
  | true => rw [e] at h; cases h
theorem notDbg_2 (h : notDbg x = true) : (x == ("__classdict__" : Str)) = false := by
  unfold notDbg at h
  cases e : (x == ("__classdict__" : Str)) with
  | false => rfl
  | true => rw [e, Bool.and_comm] at h; cases h
theorem Ctx.vis (c : Ctx T cl X M EX W) (h : visB M.sc x = true) : Vis X.env.scope x ∧ (x == ("__debug__" : Str)) = false ∧ (x == ("__classdict__" : Str)) = false := by
  rw [c.sc]
  obtain ⟨h1, h2⟩ := b2 h
  refine ⟨?_, notDbg_1 h2, notDbg_2 h2⟩
  split at h1 <;> first | exact .inl (by assumption) | exact .inr (.inl (by assumption)) | exact .inr (.inr (by assumption)) | cases h1
theorem Ctx.glo (c : Ctx T cl X M EX W) (h : gloB M.sc x = true) : Gl X x ∧ (x == ("__debug__" : Str)) = false := by
  obtain ⟨h1, h2⟩ := b2 h
  refine ⟨?_, notDbg_1 h2⟩
  show X.env.scope.names.lookup x = _
  rw [c.sc]
  split at h1 <;> first | assumption | cases h1

theorem isTrue_pl {e : Expr} {env : Env} (h : plainT e = true) : ∀ whole, isTrue e env whole = (do let v ← whole; standAt e.pos; holding [v] (truthy v)) := by
  intro whole
  cases e <;> first | rfl | exact ff h | skip
  rename_i op a p
  cases op <;> first | rfl | exact ff h
/-- truth by plain data -/
theorem tru_D {F : Hp} {R : List Addr} {H : Hp} {st : Sto} {d : D} {v : V} {k : Bool} (so : StOk X.K F R H st) (r : RelT X.K F R H d v) (h : truD st d = some k) : TruV X.K v H k := by
  unfold truD derefD at h
  cases d with
  | non => cases h; cases r.non; rfl
  | bl b => cases h; cases r.bl; rfl
  | int i => cases h; cases r.int; rfl
  | str x =>
    cases r.str
    simp only at h
    split at h
    · cases h; exact ⟨by rw [sizeLine_eq]; assumption, rfl⟩
    · cases h
  | ctup ds =>
    cases h
    obtain ⟨a, vs, rfl, h1, h2⟩ := r.ctup so.same
    refine .inr (.inl ⟨vs, h1, ?_⟩)
    have := h2.len
    cases ds <;> cases vs <;> simp at this ⊢
  | tup ds =>
    cases h
    obtain ⟨a, vs, rfl, h1, h2⟩ := r.tup so.same
    replace h1 : SqT X.K H a vs := .inl (.inl h1)
    refine .inr (.inl ⟨vs, h1, ?_⟩)
    have := h2.len
    cases ds <;> cases vs <;> simp at this ⊢
  | lst ds =>
    cases h
    obtain ⟨a, vs, rfl, h1, h2⟩ := r.lst so.same
    refine .inl ⟨vs, SqL.of h1, ?_⟩
    have := h2.len
    cases ds <;> cases vs <;> simp at this ⊢
  | dk ks ds =>
    cases h
    have q : ∃ a vs, v = .ref a ∧ H a = some (.dK (ks.zip vs)) ∧ ks.length = ds.length ∧ Rels X.K F R ds vs := by
      rcases r with r | ⟨a, e, f, n, r⟩
      · unfold Rel at r
        obtain ⟨a, vs, h1, h2, h3, h4⟩ := r
        exact ⟨a, vs, h1, so.same _ _ h2, h3, h4⟩
      · obtain ⟨vs, h2, h3, h4⟩ := r
        exact ⟨a, vs, e, h2, h3, h4⟩
    obtain ⟨a, vs, rfl, h2, h3, h4⟩ := q
    refine .inr (.inr ⟨_, h2, ?_⟩)
    have := h4.len
    cases ks <;> cases ds <;> cases vs <;> simp at this h3 ⊢
  | ref n =>
    obtain ⟨a, h1, rfl⟩ := r.ref
    obtain ⟨o, ho⟩ := so.at_some h1
    cases o with
    | lst ds =>
      simp only [ho] at h
      cases h
      obtain ⟨vs, q1, q2⟩ : ORel X.K F R H a (.lst ds) := so.obj n _ a ho h1
      refine .inl ⟨vs, SqL.of q1, ?_⟩
      have := q2.len
      cases ds <;> cases vs <;> simp at this ⊢
  | _ => cases h
theorem pt_of_t (c : Ctx T cl X M EX W) {e : Expr} {f : Enw → Sto → Res D} (hp : plainT e = true) (h : PE X e (tE .t X.K EX W f)) :
    PT X e (tT X.K EX W fun env st => (f env st).bind fun x s1 => ofO (truD s1 x) s1) := by
  refine pt_imp (pt_truth h (isTrue_pl hp)) fun σ H Q ⟨F, R, env, st, so, eo, q⟩ => ⟨F, R, env, st, so, eo, ?_⟩
  refine q.bind.imp fun d st1 F1 R1 H1 g1 so1 q1 => ⟨trivial, fun v hv => ?_⟩
  obtain ⟨k, hk, q2⟩ := q1.ofO
  exact ⟨k, tru_D so1 hv hk, q2 F1 R1 H1 .refl so1⟩
end

/-! ### names and constants -/
section
variable {T : Tb} {cl : Cl}
theorem pe_var_s {X M EX W} (c : Ctx T cl X M EX W) {i : Nat} {e : Expr} (h : mat M (.var i) e = true) : PE X e (tE .s X.K EX W (sem T cl (.var i)).v) := by
  obtain ⟨x, p, rfl, h1, h2⟩ := mat_var h
  obtain ⟨v1, v2, v3⟩ := c.vis h2
  refine pe_imp (pe_var (c.slot h1) v1 v2 v3) fun σ H Q ⟨F, R, env, st, so, eo, q⟩ => ?_
  dsimp only [sem, mkT] at q
  cases e1 : env[i]? with
  | none => rw [e1] at q; exact q.elim
  | some s =>
    rw [e1] at q
    cases s with
    | va d =>
      obtain ⟨hi, _⟩ := List.getElem?_eq_some_iff.mp e1
      have hs : i < σ.length := by rw [← eo.len]; exact hi
      obtain ⟨v, ev', r⟩ := eo.sl i _ σ[i] e1 (by simp [hs])
      exact ⟨v, by rw [List.getElem?_eq_getElem hs, ev'], (q.here so).2 v r⟩
    | _ => exact q.elim
theorem pe_peek_t {X M EX W} (c : Ctx T cl X M EX W) {i : Nat} {e : Expr} (h : mat M (.peek i) e = true) : PE X e (tE .t X.K EX W (sem T cl (.peek i)).v) := by
  obtain ⟨x, p, rfl, h1, h2⟩ := mat_peek h
  obtain ⟨v1, v2, v3⟩ := c.vis h2
  refine pe_imp (pe_var (c.slot h1) v1 v2 v3) fun σ H Q ⟨F, R, env, st, so, eo, q⟩ => ?_
  dsimp only [sem, mkT] at q
  cases e1 : env[i]? with
  | none => rw [e1] at q; exact q.elim
  | some s =>
    rw [e1] at q
    have hi := (List.getElem?_eq_some_iff.mp e1).1
    have hs : i < σ.length := by rw [← eo.len]; exact hi
    cases s with
    | va d =>
      obtain ⟨v, ev', r⟩ := eo.sl i _ σ[i] e1 (by simp [hs])
      exact ⟨v, by rw [List.getElem?_eq_getElem hs, ev'], (q.here so).2 v (.inl r)⟩
    | ow d =>
      obtain ⟨a, ev', f, n, r⟩ := eo.sl i _ σ[i] e1 (by simp [hs])
      exact ⟨.ref a, by rw [List.getElem?_eq_getElem hs, ev'], (q.here so).2 _ (.inr ⟨a, rfl, f, n, r⟩)⟩
    | _ => exact q.elim
theorem snd_var (i : Nat) : Snd T cl (.var i) where
  v := fun c _ h m hg => match m with
    | .s => pe_var_s c h
    | .t => pe_ts (pe_var_s c h)
    | .f => ff hg
  b := fun c e h => by
    obtain ⟨x, p, rfl, _⟩ := mat_var h
    exact pt_of_t c rfl (pe_ts (pe_var_s c h))
theorem snd_peek (i : Nat) : Snd T cl (.peek i) where
  v := fun c _ h m hg => match m with
    | .s => ff hg
    | .t => pe_peek_t c h
    | .f => ff hg
  b := fun c e h => by
    have t := pe_peek_t c h
    obtain ⟨x, p, rfl, _⟩ := mat_peek h
    exact pt_of_t c rfl t
/-- a form whose test is its value's truth -/
theorem Snd.mkT {ir : Ex} (s : ∀ {X M EX W}, Ctx T cl X M EX W → ∀ {e}, mat M ir e = true → ∀ m, gd m ir = true → PE X e (tE m X.K EX W (sem T cl ir).v))
    (pl : ∀ {M e}, mat M ir e = true → plainT e = true) (eb : (sem T cl ir).b = fun e st => ((sem T cl ir).v e st).bind fun x s1 => ofO (truD s1 x) s1) : Snd T cl ir where
  v := s
  b := fun {X M EX W} c e h => by
    rw [eb]
    exact pt_of_t c (pl h) (s c h .t rfl)
theorem snd_glb (x : Str) : Snd T cl (.glb x) := Snd.mkT (fun {X M EX W} c e h m hg => by
    obtain ⟨p, rfl, h1⟩ := mat_glb h
    obtain ⟨g1, g2⟩ := c.glo h1
    cases e1 : T.g x with
    | none =>
      refine ⟨fun pins s σ H Q I ⟨F, R, env, st, so, eo, q⟩ => ?_⟩
      dsimp only [sem, Nb.mkT] at q
      rw [e1] at q
      exact q.elim
    | some d =>
      obtain ⟨v, u, hm, hr, hd⟩ := c.con x d e1
      refine pe_imp (pe_glob g1 hm hr g2) fun σ H Q ⟨F, R, env, st, so, eo, q⟩ => ?_
      dsimp only [sem, Nb.mkT] at q
      rw [e1] at q
      obtain ⟨q1, q2⟩ := Fin.of (W := W) (σ := σ) so (fun _ h => h) q
      exact q2.val so (fun e => by subst e; exact ff hg) (hd F R))
  (fun {M e} h => by obtain ⟨p, rfl, _⟩ := mat_glb h; rfl) rfl
theorem snd_kon (k : Kon) : Snd T cl (.kon k) := Snd.mkT (fun {X M EX W} c e h m hg => by
    obtain ⟨cc, j, p, rfl, h1⟩ := mat_kon h
    have hf : m ≠ .f := fun e => by subst e; exact ff hg
    cases k <;> cases cc <;> first | exact ff h1 | skip
    · exact pe_imp pe_non fun σ H Q ⟨F, R, env, st, so, eo, q⟩ => (Fin.of (W := W) (σ := σ) so (fun _ h => h) q).2.val so hf (by unfold Kon.d Rel; rfl)
    · rename_i a b
      have h1 : a = b := by
        have : (a == b) = true := h1
        exact eq_of_beq this
      subst h1
      exact pe_imp pe_bl fun σ H Q ⟨F, R, env, st, so, eo, q⟩ => (Fin.of (W := W) (σ := σ) so (fun _ h => h) q).2.val so hf (by unfold Kon.d Rel; rfl)
    · have h1 := of_decide_eq_true h1
      subst h1
      exact pe_imp pe_int fun σ H Q ⟨F, R, env, st, so, eo, q⟩ => (Fin.of (W := W) (σ := σ) so (fun _ h => h) q).2.val so hf (by unfold Kon.d Rel; rfl)
    · have h1 := of_decide_eq_true h1
      subst h1
      exact pe_imp pe_str fun σ H Q ⟨F, R, env, st, so, eo, q⟩ => (Fin.of (W := W) (σ := σ) so (fun _ h => h) q).2.val so hf (by unfold Kon.d Rel; rfl))
  (fun {M e} h => by obtain ⟨cc, j, p, rfl, _⟩ := mat_kon h; rfl) rfl
end
end Nb
end
section
set_option Elab.async false
set_option linter.all false
set_option maxRecDepth 100000
set_option maxHeartbeats 4000000
/-! NbF: operators and comparisons -/
namespace Nb
open PySem PySem.Spec PyProof.Rows L2

section
variable {K : PySem.W.Frag} {F : Hp} {R : List Addr} {H : Hp} {st : Sto} {d : D} {v : V}
theorem deref_lst {ds : List D} (so : StOk K F R H st) (r : RelT K F R H d v) (h : derefD st d = .lst ds) : ∃ a vs, v = .ref a ∧ H a = some (.lst vs) ∧ Rels K F R ds vs := by
  cases d with
  | lst xs => cases h; exact r.lst so.same
  | ref n =>
    obtain ⟨a, h1, rfl⟩ := r.ref
    obtain ⟨o, ho⟩ := so.at_some h1
    cases o with
    | lst xs =>
      unfold derefD at h
      simp only [ho] at h
      cases h
      obtain ⟨vs, q1, q2⟩ : ORel K F R H a (.lst ds) := so.obj n _ a ho h1
      exact ⟨a, vs, rfl, q1, q2⟩
  | _ => cases h
theorem deref_tup {ds : List D} (so : StOk K F R H st) (r : RelT K F R H d v) (h : derefD st d = .tup ds) : ∃ a vs, v = .ref a ∧ SqT K H a vs ∧ Rels K F R ds vs := by
  cases d with
  | tup xs =>
    cases h
    obtain ⟨a, vs, e, h1, h2⟩ := r.tup so.same
    exact ⟨a, vs, e, .inl (.inl h1), h2⟩
  | ctup xs => cases h; exact r.ctup so.same
  | ref n =>
    obtain ⟨a, h1, rfl⟩ := r.ref
    obtain ⟨o, ho⟩ := so.at_some h1
    cases o with
    | lst xs =>
      unfold derefD at h
      simp only [ho] at h
      cases h
  | _ => cases h
theorem tupD_r {ds : List D} (so : StOk K F R H st) (r : RelT K F R H d v) (h : tupD d = some ds) : ∃ a vs, v = .ref a ∧ SqT K H a vs ∧ Rels K F R ds vs := by
  refine deref_tup so r ?_
  cases d <;> first | (cases h; rfl) | (unfold tupD at h; cases h)
/-- what derefs to no list and no tuple is itself -/
theorem deref_id {x : D} (h : derefD st d = x) (h1 : ∀ ds, x ≠ .lst ds) (h2 : ∀ ds, x ≠ .tup ds) : d = x := by
  cases d with
  | ref n =>
    unfold derefD at h
    cases e : st[n]? with
    | none => simp only [e] at h; exact h
    | some o =>
      cases o with
      | lst xs => simp only [e] at h; exact absurd h.symm (h1 xs)
  | ctup xs => exact absurd h.symm (h2 xs)
  | _ => exact h
theorem deref_dk {ks : List Key} {ds : List D} (so : StOk K F R H st) (r : RelT K F R H (.dk ks ds) v) : ∃ a vs, v = .ref a ∧ H a = some (.dK (ks.zip vs)) ∧ ks.length = ds.length ∧ Rels K F R ds vs := by
  rcases r with r | ⟨a, e, f, n, r⟩
  · unfold Rel at r
    obtain ⟨a, vs, h1, h2, h3, h4⟩ := r
    exact ⟨a, vs, h1, so.same _ _ h2, h3, h4⟩
  · obtain ⟨vs, h2, h3, h4⟩ := r
    exact ⟨a, vs, e, h2, h3, h4⟩
theorem deref_dt {ks : List (List Key)} {ds : List D} (so : StOk K F R H st) (r : RelT K F R H (.dt ks ds) v) : ∃ a vs, v = .ref a ∧ H a = some (.dT (ks.zip vs)) ∧ ks.length = ds.length ∧ Rels K F R ds vs := by
  rcases r with r | ⟨a, e, f, n, r⟩
  · unfold Rel at r
    obtain ⟨a, vs, h1, h2, h3, h4⟩ := r
    exact ⟨a, vs, h1, so.same _ _ h2, h3, h4⟩
  · obtain ⟨vs, h2, h3, h4⟩ := r
    exact ⟨a, vs, e, h2, h3, h4⟩
/-- a key -/
theorem keyD_r {k : Key} (r : RelT K F R H d v) (h : keyD d = some k) : v = kV k := by
  cases d <;> first | (cases h; cases r.int; rfl) | (cases h; cases r.str; rfl) | (unfold keyD at h; cases h)
theorem keyD_s {k : Key} (r : Rel K F R d v) (h : keyD d = some k) : v = kV k := keyD_r (H := fun _ => none) (.inl r) h
theorem keys_s : ∀ {ds : List D} {vs : List V} {ks : List Key}, Rels K F R ds vs → ds.mapM keyD = some ks → vs = ks.map kV
  | [], vs, ks, r, h => by
    unfold Rels at r
    subst r
    simp at h
    subst h
    rfl
  | d :: ds, vs, ks, r, h => by
    unfold Rels at r
    obtain ⟨v, ws, rfl, h1, h2⟩ := r
    rw [List.mapM_cons] at h
    cases e1 : keyD d with
    | none => rw [e1] at h; cases h
    | some k =>
      rw [e1] at h
      cases e2 : ds.mapM keyD with
      | none => rw [e2] at h; cases h
      | some ls =>
        rw [e2] at h
        cases h
        rw [keyD_s h1 e1, keys_s h2 e2]
        rfl
theorem keysD_r {k : List Key} (so : StOk K F R H st) (r : RelT K F R H d v) (h : keysD d = some k) : ∃ b, v = .ref b ∧ H b = some (.tup (k.map kV)) := by
  cases d with
  | tup ds =>
    obtain ⟨a, vs, rfl, h1, h2⟩ := r.tup so.same
    refine ⟨a, rfl, ?_⟩
    rw [h1, keys_s h2 h]
  | _ => unfold keysD at h; cases h
end

/-! ### data of any depth -/
mutual
theorem toP_lay : ∀ {d : D}, okD d = true → (toP d).canLay0 = true
  | .non, _ => by simp [toP, PyData.canLay0]
  | .bl _, _ => by simp [toP, PyData.canLay0]
  | .int _, _ => by simp [toP, PyData.canLay0]
  | .str _, h => by simpa [toP, PyData.canLay0, okD] using h
  | .tup xs, h => by
    unfold okD at h
    simpa [toP, PyData.canLay0] using toPs_lay (ds := xs) h
  | .ctup xs, h => by
    unfold okD at h
    simpa [toP, PyData.canLay0] using toPs_lay (ds := xs) h
  | .lst xs, h => by
    unfold okD at h
    simpa [toP, PyData.canLay0] using toPs_lay (ds := xs) h
theorem toPs_lay : ∀ {ds : List D}, okDs ds = true → PyData.canLayAll0 (toPs ds) = true
  | [], _ => by simp [toPs, PyData.canLayAll0]
  | x :: xs, h => by
    unfold okDs at h
    obtain ⟨h1, h2⟩ := b2 h
    simp [toPs, PyData.canLayAll0, toP_lay h1, toPs_lay h2]
end
mutual
theorem toP_dep : ∀ (d : D), okD d = true → (toP d).depth = depD d
  | .non, _ => by simp [toP, PyData.depth, depD]
  | .bl _, _ => by simp [toP, PyData.depth, depD]
  | .int _, _ => by simp [toP, PyData.depth, depD]
  | .str _, _ => by simp [toP, PyData.depth, depD]
  | .tup xs, h => by
    unfold okD at h
    simp [toP, PyData.depth, depD, toPs_dep xs h]
  | .ctup xs, h => by
    unfold okD at h
    simp [toP, PyData.depth, depD, toPs_dep xs h]
  | .lst xs, h => by
    unfold okD at h
    simp [toP, PyData.depth, depD, toPs_dep xs h]
theorem toPs_dep : ∀ (ds : List D), okDs ds = true → PyData.depthAll (toPs ds) = depDs ds
  | [], _ => by simp [toPs, PyData.depthAll, depDs]
  | x :: xs, h => by
    unfold okDs at h
    obtain ⟨h1, h2⟩ := b2 h
    simp [toPs, PyData.depthAll, depDs, toP_dep x h1, toPs_dep xs h2]
end
theorem shaped_toP {d : D} (h : shapedD d = true) : SeqAt.shaped (toP d) = true := by
  obtain ⟨h1, h2⟩ := b2 h
  unfold SeqAt.shaped
  rw [toP_lay h1, toP_dep d h1]
  exact h2
mutual
theorem toP_eqv : ∀ {a b : D}, okD a = true → okD b = true → PyData.eqv (toP a) (toP b) = eqv a b
  | .non, b, _, hb => by
    cases b <;> first | exact ff hb | simp [toP, PyData.eqv, eqv]
  | .bl _, b, _, hb => by
    cases b <;> first | exact ff hb | simp [toP, PyData.eqv, eqv]
  | .int _, b, _, hb => by
    cases b <;> first | exact ff hb | simp [toP, PyData.eqv, eqv]
  | .str _, b, _, hb => by
    cases b <;> first | exact ff hb | simp [toP, PyData.eqv, eqv]
  | .tup xs, b, ha, hb => by
    unfold okD at ha
    cases b <;> first | exact ff hb | simp [toP, PyData.eqv, eqv]
    all_goals (unfold okD at hb; exact toPs_eqv ha hb)
  | .ctup xs, b, ha, hb => by
    unfold okD at ha
    cases b <;> first | exact ff hb | simp [toP, PyData.eqv, eqv]
    all_goals (unfold okD at hb; exact toPs_eqv ha hb)
  | .lst xs, b, ha, hb => by
    unfold okD at ha
    cases b <;> first | exact ff hb | simp [toP, PyData.eqv, eqv]
    all_goals (unfold okD at hb; exact toPs_eqv ha hb)
theorem toPs_eqv : ∀ {a b : List D}, okDs a = true → okDs b = true → PyData.eqvAll (toPs a) (toPs b) = eqvs a b
  | [], [], _, _ => by simp [toPs, PyData.eqvAll, eqvs]
  | [], _ :: _, _, _ => by simp [toPs, PyData.eqvAll, eqvs]
  | _ :: _, [], _, _ => by simp [toPs, PyData.eqvAll, eqvs]
  | x :: xs, y :: ys, ha, hb => by
    unfold okDs at ha hb
    obtain ⟨h1, h2⟩ := b2 ha
    obtain ⟨h3, h4⟩ := b2 hb
    simp [toPs, PyData.eqvAll, eqvs, toP_eqv h1 h3, toPs_eqv h2 h4]
end
section
variable {K : PySem.W.Frag} {F : Hp} {R : List Addr} {H : Hp} {st : Sto}
mutual
theorem Rel.dp (s : Same F H) : ∀ {d : D} {v : V}, Rel K F R d v → okD d = true → Dp K H v (toP d)
  | .non, _, h, _ => by unfold Rel at h; subst h; exact .non
  | .bl _, _, h, _ => by unfold Rel at h; subst h; exact .bl _
  | .int _, _, h, _ => by unfold Rel at h; subst h; exact .int _
  | .str _, _, h, _ => by unfold Rel at h; subst h; exact .str _
  | .tup xs, _, h, k => by
    unfold Rel at h; unfold okD at k; obtain ⟨a, vs, rfl, h1, h2⟩ := h
    exact .tup (.inl (.inl (s _ _ h1))) (Rels.dp s h2 k)
  | .ctup xs, _, h, k => by
    unfold Rel at h; unfold okD at k; obtain ⟨a, vs, rfl, h1, h2⟩ := h
    exact .tup (sqT_same s h1) (Rels.dp s h2 k)
  | .lst xs, _, h, k => by
    unfold Rel at h; unfold okD at k; obtain ⟨a, vs, rfl, h1, h2⟩ := h
    exact .lst (SqL.of (s _ _ h1)) (Rels.dp s h2 k)
  | .clst xs, _, _, k => ff (show false = true from k)
  | .dk _ _, _, _, k => ff (show false = true from k)
  | .dt _ _, _, _, k => ff (show false = true from k)
  | .ins _ _ _, _, _, k => ff (show false = true from k)
  | .ref _, _, _, k => ff (show false = true from k)
theorem Rels.dp (s : Same F H) : ∀ {ds : List D} {vs : List V}, Rels K F R ds vs → okDs ds = true → DpAll K H vs (toPs ds)
  | [], _, h, _ => by unfold Rels at h; subst h; exact .nil
  | d :: ds, _, h, k => by
    unfold Rels at h; unfold okDs at k; obtain ⟨v, ws, rfl, h1, h2⟩ := h
    obtain ⟨k1, k2⟩ := b2 k
    exact .cons (Rel.dp s h1 k1) (Rels.dp s h2 k2)
end
theorem RelT.dp {d : D} {v : V} (so : StOk K F R H st) (r : RelT K F R H d v) (h : okD (derefD st d) = true) : Dp K H v (toP (derefD st d)) := by
  cases e : derefD st d with
  | lst ds =>
    obtain ⟨a, vs, rfl, h1, h2⟩ := deref_lst so r e
    rw [e] at h
    unfold okD at h
    exact .lst (SqL.of h1) (h2.dp so.same h)
  | tup ds =>
    obtain ⟨a, vs, rfl, h1, h2⟩ := deref_tup so r e
    rw [e] at h
    unfold okD at h
    exact .tup h1 (h2.dp so.same h)
  | _ =>
    rw [e] at h
    rw [deref_id e (fun _ h => nomatch h) (fun _ h => nomatch h)] at r
    first
      | exact ff h
      | (rcases r with r | ⟨a, _, _, _, r⟩
         · exact r.dp so.same h
         · exact r.elim)
end
end Nb
end
section
set_option Elab.async false
set_option linter.all false
set_option maxRecDepth 100000
set_option maxHeartbeats 4000000
/-! NbG: operators, comparisons, and, or, if-else -/
namespace Nb
open PySem PySem.Spec PyProof.Rows L2

/-- a two-place operation in mode m -/
theorem t2_of {K : PySem.W.Frag} {EX : EXT} {W : WX} {m : Md} {fa fb : Enw → Sto → Res D} {g : Sto → D → D → Option D} {r : R2}
    (hr : ∀ F R H st x y z vx vy Q, StOk K F R H st → RelT K F R H x vx → RelT K F R H y vy → g st x y = some z → okM m z → Fin m K F R H st z Q → r vx vy H Q) :
    ∀ σ H Q, tE m K EX W (fun e st => (fa e st).bind fun x s1 => (fb e s1).bind fun y s2 => ofO (g s2 x y) s2) σ H Q → tOp r (tE .t K EX W fa) (tE .t K EX W fb) σ H Q :=
  fun σ H Q ⟨F, R, env, st, so, eo, q⟩ => ⟨F, R, env, st, so, eo, q.bind.imp fun x st1 F1 R1 H1 g1 so1 q1 => ⟨trivial, fun vx rx =>
    ⟨F1, R1, env, st1, so1, eo.grow g1, q1.bind.imp fun y st2 F2 R2 H2 g2 so2 q2 => ⟨trivial, fun vy ry => by
      obtain ⟨z, hz, q3⟩ := q2.ofO
      obtain ⟨q4, q5⟩ := Fin.of (W := W) (σ := σ) so2 (g1.trans g2).back q3
      exact hr F2 R2 H2 st2 x y z vx vy Q so2 (rx.grow g2) ry hz q4 q5⟩⟩⟩⟩
theorem int_of {K : PySem.W.Frag} {F : Hp} {R : List Addr} {H : Hp} {i : Int} {v : V} (r : RelT K F R H (.int i) v) : v = .int i := r.int

def BinS (X : Cx) (o : Bo) (r : R2) : Prop := ∀ m F R H st x y z vx vy Q, StOk X.K F R H st → RelT X.K F R H x vx → RelT X.K F R H y vy → binD o x y = some z → okM m z → Fin m X.K F R H st z Q → r vx vy H Q
section
variable {X : Cx} {K : PySem.W.Frag}
/-- ints alone -/
theorem bin_ints {o : Bo} {x y z : D} (h : binD o x y = some z) (hadd : o ≠ .add) (hmul : o ≠ .mul) : ∃ i j k, x = .int i ∧ y = .int j ∧ binI o i j = some k ∧ z = .int k := by
  cases x <;> cases y <;> cases o <;> first
    | exact absurd rfl hadd
    | exact absurd rfl hmul
    | (unfold binD at h; cases h; done)
    | (rename_i i j
       unfold binD at h
       obtain ⟨k, h1, h2⟩ := Option.map_eq_some_iff.mp h
       exact ⟨i, j, k, rfl, rfl, h1, h2.symm⟩)
theorem binS_I {o : Bo} {C : Int → Int → Prop} {g : Int → Int → Int} (hadd : o ≠ .add) (hmul : o ≠ .mul) (h : ∀ i j k, binI o i j = some k → C i j ∧ k = g i j) : BinS X o (rI C fun i j => .int (g i j)) := fun m F R H st x y z vx vy Q so rx ry hz hm hf => by
  obtain ⟨i, j, k, rfl, rfl, h1, rfl⟩ := bin_ints hz hadd hmul
  obtain ⟨h2, rfl⟩ := h i j k h1
  exact ⟨i, j, rx.int, ry.int, h2, hf.int so hm⟩
theorem binS_I0 {o : Bo} {g : Int → Int → Int} (hadd : o ≠ .add) (hmul : o ≠ .mul) (h : ∀ i j k, binI o i j = some k → k = g i j) : BinS X o (rI0 fun i j => .int (g i j)) := fun m F R H st x y z vx vy Q so rx ry hz hm hf => by
  obtain ⟨i, j, k, rfl, rfl, h1, rfl⟩ := bin_ints hz hadd hmul
  have h2 := h i j k h1
  subst h2
  exact ⟨i, j, rx.int, ry.int, hf.int so hm⟩
theorem ite_some {α : Type} {c : Prop} [Decidable c] {a b : α} (h : (if c then some a else none) = some b) : c ∧ b = a := by
  split at h
  · cases h; exact ⟨by assumption, rfl⟩
  · cases h
def rStrCat : R2 := fun x y H Q => ∃ i j, x = .str i ∧ y = .str j ∧ i.length + j.length ≤ sizeLine ∧ Q (.str (i ++ j)) H
theorem big_line : (big : Nat) = sizeLine := by rw [sizeLine_eq]; rfl
theorem tupD_F {F : Hp} {R : List Addr} {H : Hp} {d : D} {v : V} {ds : List D} (r : RelT K F R H d v) (h : tupD d = some ds) : ∃ a vs, v = .ref a ∧ SqT K F a vs ∧ Rels K F R ds vs := by
  rcases r with r | ⟨_, _, _, _, r⟩
  · cases d <;> first | (unfold tupD at h; cases h; done) | skip
    · cases h
      unfold Rel at r
      obtain ⟨a, vs, e, h1, h2⟩ := r
      exact ⟨a, vs, e, .inl (.inl h1), h2⟩
    · cases h
      unfold Rel at r
      exact r
  · cases d <;> first | exact r.elim | (unfold tupD at h; cases h; done)
theorem Fin.ctup {F : Hp} {R : List Addr} {H : Hp} {st : Sto} {m : Md} {Q : VK} {ds : List D} {vs : List V} (k : Fin m K F R H st (.ctup ds) Q) (so : StOk K F R H st) (hm : m ≠ .f) (r : Rels K F R ds vs) : ∀ p, H p = none → Q (.ref p) (upd H p (.tup vs)) := fun p hp => by
  have g : Grow F R H (upd F p (.tup vs)) R (upd H p (.tup vs)) := .new so.same hp
  have h : Rel K (upd F p (.tup vs)) R (.ctup ds) (.ref p) := by
    unfold Rel
    exact ⟨p, vs, rfl, .inl (.inl upd_same), r.mono g.sameF List.prefix_rfl⟩
  refine k _ _ _ _ g (so.new hp) ?_
  cases m with
  | s => exact h
  | t => exact .inl h
  | f => exact absurd rfl hm
theorem okM_ctup {m : Md} {ds : List D} (hm : okM m (.ctup ds)) : m ≠ .f := fun e => by
  subst e; exact absurd (show isOwn (.ctup ds) = true from hm) Bool.false_ne_true
theorem nil_of {F : Hp} {R : List Addr} {ds : List D} (r : Rels K F R ds []) : ds = [] := by
  cases ds with
  | nil => rfl
  | cons d ds => unfold Rels at r; obtain ⟨_, _, e, _⟩ := r; cases e
/-- two tuples put together, either of unknown make -/
theorem cat_any {m : Md} {F : Hp} {R : List Addr} {H : Hp} {st : Sto} {x y : D} {vx vy : V} {ds es : List D} {Q : VK} (so : StOk K F R H st) (rx : RelT K F R H x vx) (ry : RelT K F R H y vy) (ex : tupD x = some ds) (ey : tupD y = some es)
    (hz : ds.length + es.length ≤ big) (hm : okM m (.ctup (ds ++ es))) (hf : Fin m K F R H st (.ctup (ds ++ es)) Q) : rCatA K vx vy H Q := by
  obtain ⟨a, xs, rfl, h1, r1⟩ := tupD_F rx ex
  obtain ⟨b, ys, rfl, h2, r2⟩ := tupD_F ry ey
  have hmf := okM_ctup hm
  refine ⟨a, b, xs, ys, rfl, rfl, sqT_same so.same h1, sqT_same so.same h2, by rw [← big_line, ← r1.len, ← r2.len]; exact hz, fun e => ?_, fun _ e => ?_, fun _ _ => hf.ctup so hmf (r1.app r2)⟩
  · subst e
    cases nil_of r1
    exact hf.val so hmf (by unfold Rel; exact ⟨b, ys, rfl, h2, r2⟩)
  · subst e
    cases nil_of r2
    rw [List.append_nil] at hf
    exact hf.val so hmf (by unfold Rel; exact ⟨a, xs, rfl, h1, r1⟩)
theorem cat_tup {m : Md} {F : Hp} {R : List Addr} {H : Hp} {st : Sto} {vx vy : V} {ds es : List D} {Q : VK} (so : StOk K F R H st) (rx : RelT K F R H (.tup ds) vx) (ry : RelT K F R H (.tup es) vy)
    (hz : ds.length + es.length ≤ big) (hm : okM m (.tup (ds ++ es))) (hf : Fin m K F R H st (.tup (ds ++ es)) Q) : rCatA K vx vy H Q := by
  rcases rx with rx | ⟨_, _, _, _, r⟩
  · rcases ry with ry | ⟨_, _, _, _, r⟩
    · unfold Rel at rx ry
      obtain ⟨a, xs, rfl, h1, r1⟩ := rx
      obtain ⟨b, ys, rfl, h2, r2⟩ := ry
      have hmf := okM_tup hm
      refine ⟨a, b, xs, ys, rfl, rfl, .inl (.inl (so.same _ _ h1)), .inl (.inl (so.same _ _ h2)), by rw [← big_line, ← r1.len, ← r2.len]; exact hz, fun e => ?_, fun _ e => ?_, fun _ _ => hf.tup so hmf (r1.app r2)⟩
      · subst e
        cases nil_of r1
        exact hf.val so hmf (by unfold Rel; exact ⟨b, ys, rfl, h2, r2⟩)
      · subst e
        cases nil_of r2
        rw [List.append_nil] at hf
        exact hf.val so hmf (by unfold Rel; exact ⟨a, xs, rfl, h1, r1⟩)
    · exact r.elim
  · exact r.elim
theorem binS_add : BinS X .add fun x y H Q => rI0 (fun i j => .int (i + j)) x y H Q ∨ rStrCat x y H Q ∨ rCatA X.K x y H Q ∨ rCat x y H Q := fun m F R H st x y z vx vy Q so rx ry hz hm hf => by
  have tups : ∀ xs ys, tupD x = some xs → tupD y = some ys → (if xs.length + ys.length ≤ big then some (D.ctup (xs ++ ys)) else none) = some z → rCatA X.K vx vy H Q := fun xs ys e1 e2 e3 => by
    obtain ⟨hl, rfl⟩ := ite_some e3
    exact cat_any so rx ry e1 e2 hl hm hf
  cases x <;> cases y <;> first
    | (cases hz; done)
    | exact .inr (.inr (.inl (tups _ _ rfl rfl hz)))
    | (cases hz; exact .inl ⟨_, _, rx.int, ry.int, hf.int so hm⟩)
    | skip
  · obtain ⟨hl, rfl⟩ := ite_some hz
    exact .inr (.inl ⟨_, _, rx.str, ry.str, by rw [← big_line]; exact hl, hf.str so hm⟩)
  · obtain ⟨hl, rfl⟩ := ite_some hz
    exact .inr (.inr (.inl (cat_tup so rx ry hl hm hf)))
  · obtain ⟨hl, rfl⟩ := ite_some hz
    obtain ⟨a, xs, rfl, h1, r1⟩ := rx.lst so.same
    obtain ⟨b, ys, rfl, h2, r2⟩ := ry.lst so.same
    exact .inr (.inr (.inr ⟨a, b, xs, ys, rfl, rfl, h1, h2, by rw [← big_line, ← r1.len, ← r2.len]; exact hl, hf.lst so (r1.app r2)⟩))
theorem Rels.rep {F : Hp} {R : List Addr} {ds : List D} {vs : List V} (r : Rels K F R ds vs) : ∀ k : Nat, Rels K F R (List.replicate k ds).flatten (List.replicate k vs).flatten
  | 0 => by simp only [List.replicate_zero, List.flatten_nil]; exact Rels.nil
  | k + 1 => by
    rw [List.replicate_succ, List.replicate_succ, List.flatten_cons, List.flatten_cons]
    exact r.app (r.rep k)
theorem binS_mul : BinS X .mul fun x y H Q => rI L2.CMul (fun i j => .int (i * j)) x y H Q ∨ rRepT X.K x y H Q ∨ rRep x y H Q := fun m F R H st x y z vx vy Q so rx ry hz hm hf => by
  have tups : ∀ xs k, tupD x = some xs → y = .int k → (if !xs.isEmpty && decide (2 ≤ k) && decide (k ≤ 1000) && decide (xs.length ≤ 1000) then some (D.tup (repD k xs)) else none) = some z → rRepT X.K vx vy H Q := fun xs k e1 e2 e3 => by
    obtain ⟨hl, rfl⟩ := ite_some e3
    subst e2
    obtain ⟨a, vs, rfl, h1, r1⟩ := tupD_F rx e1
    simp only [Bool.and_eq_true, decide_eq_true_eq, Bool.not_eq_true'] at hl
    obtain ⟨⟨⟨l1, l2⟩, l3⟩, l4⟩ := hl
    refine ⟨a, k, vs, rfl, ry.int, sqT_same so.same h1, fun e => ?_, l2, l3, by rw [← r1.len]; exact l4, hf.tup so (okM_tup hm) (r1.rep _)⟩
    subst e
    cases nil_of r1
    cases l1
  cases x <;> cases y <;> first
    | (cases hz; done)
    | exact .inr (.inl (tups _ _ rfl rfl hz))
    | skip
  · rename_i i j
    unfold binD at hz
    obtain ⟨k, h1, rfl⟩ := Option.map_eq_some_iff.mp hz
    unfold binI at h1
    simp only at h1
    obtain ⟨hc, rfl⟩ := ite_some h1
    refine .inl ⟨i, j, rx.int, ry.int, ?_, hf.int so hm⟩
    unfold Nb.cMul at hc
    simpa [L2.CMul] using hc
  · rename_i ds k
    unfold binD at hz
    simp only at hz
    obtain ⟨hl, rfl⟩ := ite_some hz
    simp only [Bool.and_eq_true, decide_eq_true_eq] at hl
    obtain ⟨⟨l1, l2⟩, l3⟩ := hl
    obtain ⟨a, xs, rfl, h1, r1⟩ := rx.lst so.same
    exact .inr (.inr ⟨a, k, xs, rfl, ry.int, h1, by omega, by omega, by rw [← big_line, ← r1.len]; exact l3, hf.lst so (r1.rep _)⟩)
theorem bin_rule {o : Bo} {op : Operator} (h : boB o op = true) : ∃ r, OpR X (binaryOp op) r ∧ BinS X o r := by
  cases o <;> cases op <;> first | exact ff h | skip
  · exact ⟨_, op_add.or (op_add_str.or (op_catA.or op_cat)), binS_add⟩
  · exact ⟨_, op_sub, binS_I0 (by simp) (by simp) fun i j k e => by cases e; rfl⟩
  · exact ⟨_, op_mul.or (op_repT.or op_rep), binS_mul⟩
  · exact ⟨_, op_fdivN, binS_I (by simp) (by simp) fun i j k e => by
      obtain ⟨e1, e2⟩ := ite_some e
      unfold Nb.cDiv at e1
      simp only [Bool.and_eq_true, decide_eq_true_eq] at e1
      exact ⟨e1, e2⟩⟩
  · exact ⟨_, op_modN, binS_I (by simp) (by simp) fun i j k e => by
      obtain ⟨e1, e2⟩ := ite_some e
      unfold Nb.cMod at e1
      exact ⟨of_decide_eq_true e1, e2⟩⟩
  · exact ⟨_, op_pow, binS_I (by simp) (by simp) fun i j k e => by
      obtain ⟨e1, e2⟩ := ite_some e
      unfold Nb.cPow at e1
      simp only [Bool.and_eq_true, decide_eq_true_eq] at e1
      exact ⟨⟨e1.1.1, e1.1.2, e1.2⟩, e2⟩⟩
  · exact ⟨_, op_shl, binS_I (by simp) (by simp) fun i j k e => by
      obtain ⟨e1, e2⟩ := ite_some e
      unfold Nb.cPow at e1
      simp only [Bool.and_eq_true, decide_eq_true_eq] at e1
      exact ⟨⟨e1.1.1, e1.1.2, e1.2⟩, e2⟩⟩
  · exact ⟨_, op_shr, binS_I (by simp) (by simp) fun i j k e => by
      obtain ⟨e1, e2⟩ := ite_some e
      exact ⟨of_decide_eq_true e1, e2⟩⟩
  · exact ⟨_, op_and, binS_I0 (by simp) (by simp) fun i j k e => by cases e; rfl⟩
  · exact ⟨_, op_or, binS_I0 (by simp) (by simp) fun i j k e => by cases e; rfl⟩
  · exact ⟨_, op_xor, binS_I0 (by simp) (by simp) fun i j k e => by cases e; rfl⟩
end
section
variable {T : Tb} {cl : Cl} {a b : Ex}
theorem snd_bin {o : Bo} (ha : Snd T cl a) (hb : Snd T cl b) : Snd T cl (.bin o a b) := Snd.mkT (fun {X M EX W} c e h m hg => by
    obtain ⟨x, op, y, p, rfl, h1, h2, h3⟩ := mat_bin h
    obtain ⟨r, ho, hs⟩ := bin_rule (X := X) h1
    exact pe_imp (pe_op ho (ha.v c h2 .t rfl) (hb.v c h3 .t rfl)) (t2_of (g := fun _ x y => binD o x y) (hs m)))
  (fun {M e} h => by obtain ⟨x, op, y, p, rfl, _⟩ := mat_bin h; rfl) rfl
theorem snd_un {o : Uo} (ha : Snd T cl a) : Snd T cl (.un o a) := Snd.mkT (fun {X M EX W} c e h m hg => by
    obtain ⟨op, x, p, rfl, h1, h2⟩ := mat_un h
    have hf : m ≠ .f := fun e => by subst e; exact ff hg
    have main : ∀ (g : Int → Int), (∀ x z, unD o x = some z → ∃ i, x = .int i ∧ z = .int (g i)) → ∀ σ H Q, tE m X.K EX W (sem T cl (.un o a)).v σ H Q → tUn (rU fun i => .int (g i)) (tE .t X.K EX W (sem T cl a).v) σ H Q := fun g hgg σ H Q ⟨F, R, env, st, so, eo, q⟩ =>
      ⟨F, R, env, st, so, eo, q.bind.imp fun x st1 F1 R1 H1 g1 so1 q1 => ⟨trivial, fun vx rx => by
        obtain ⟨z, hz, q3⟩ := q1.ofO
        obtain ⟨q4, q5⟩ := Fin.of (W := W) (σ := σ) so1 g1.back q3
        obtain ⟨i, rfl, rfl⟩ := hgg x z hz
        exact ⟨i, RelT.int rx, q5.int so1 q4⟩⟩⟩
    cases o <;> cases op <;> first | exact ff h1 | skip
    · exact pe_imp (pe_un un_neg (ha.v c h2 .t rfl)) (main _ fun x z e => by
        cases x <;> first | (cases e; done) | (cases e; exact ⟨_, rfl, rfl⟩))
    · exact pe_imp (pe_un un_inv (ha.v c h2 .t rfl)) (main _ fun x z e => by
        cases x <;> first | (cases e; done) | (cases e; exact ⟨_, rfl, rfl⟩)))
  (fun {M e} h => by
    obtain ⟨op, x, p, rfl, h1, _⟩ := mat_un h
    cases o <;> cases op <;> first | exact ff h1 | rfl) rfl
end
end Nb
end
section
set_option Elab.async false
set_option linter.all false
set_option maxRecDepth 100000
set_option maxHeartbeats 4000000
/-! NbH: comparisons -/
namespace Nb
open PySem PySem.Spec PyProof.Rows L2

def CmpS (X : Cx) (o : Co) (r : R2) : Prop := ∀ F R H st x y k vx vy Q, StOk X.K F R H st → RelT X.K F R H x vx → RelT X.K F R H y vy → cmpD st o x y = some k → Q (.bl k) H → r vx vy H Q
section
variable {X : Cx} {K : PySem.W.Frag} {F : Hp} {R : List Addr} {H : Hp} {st : Sto}
theorem no_mark {op : CmpOp} {e : Expr} (h : notSet e = true) : behindInMarks op e = false := by
  cases e <;> first | exact ff h | (unfold behindInMarks; rfl)
theorem sclD_eq {x y : D} {vx vy : V} (rx : RelT K F R H x vx) (ry : RelT K F R H y vy) (h : sclD x y = true) : scal vx vy = true ∧ decide (vx = vy) = eqv x y := by
  cases x <;> cases y <;> first | exact ff h | skip
  · cases rx.non; cases ry.non; exact ⟨rfl, by simp [eqv]⟩
  · cases rx.non; cases ry.bl; exact ⟨rfl, by simp [eqv]⟩
  · cases rx.non; cases ry.int; exact ⟨rfl, by simp [eqv]⟩
  · cases rx.non; cases ry.str; exact ⟨rfl, by simp [eqv]⟩
  · cases rx.bl; cases ry.non; exact ⟨rfl, by simp [eqv]⟩
  · cases rx.bl; cases ry.bl; exact ⟨rfl, by rw [dec_bl]; simp [eqv]⟩
  · cases rx.bl; cases ry.str; exact ⟨rfl, by simp [eqv]⟩
  · cases rx.int; cases ry.non; exact ⟨rfl, by simp [eqv]⟩
  · cases rx.int; cases ry.int; exact ⟨rfl, by rw [dec_int]; simp [eqv]⟩
  · cases rx.int; cases ry.str; exact ⟨rfl, by simp [eqv]⟩
  · cases rx.str; cases ry.non; exact ⟨rfl, by simp [eqv]⟩
  · cases rx.str; cases ry.bl; exact ⟨rfl, by simp [eqv]⟩
  · cases rx.str; cases ry.int; exact ⟨rfl, by simp [eqv]⟩
  · cases rx.str; cases ry.str; exact ⟨rfl, by rw [dec_str]; simp [eqv]⟩
theorem eqD_rule {x y : D} {vx vy : V} {k : Bool} (so : StOk K F R H st) (rx : RelT K F R H x vx) (ry : RelT K F R H y vy) (h : eqD st x y = some k) :
    (scal vx vy = true ∧ decide (vx = vy) = k) ∨ ∃ d e, Dp K H vx d ∧ Dp K H vy e ∧ SeqAt.shaped d = true ∧ SeqAt.shaped e = true ∧ PyData.eqv d e = k := by
  unfold eqD at h
  by_cases hs : sclD x y = true
  · rw [if_pos hs] at h
    cases h
    exact .inl (sclD_eq rx ry hs)
  · rw [if_neg hs] at h
    obtain ⟨h1, rfl⟩ := ite_some h
    obtain ⟨h1, h2⟩ := b2 h1
    refine .inr ⟨_, _, rx.dp so (b2 h1).1, ry.dp so (b2 h2).1, shaped_toP h1, shaped_toP h2, toP_eqv (b2 h1).1 (b2 h2).1⟩
theorem cs_eq : CmpS X .eq fun x y H Q => rEq x y H Q ∨ rEqD X.K x y H Q := fun F R H st x y k vx vy Q so rx ry h q => by
  rcases eqD_rule so rx ry h with ⟨h1, rfl⟩ | ⟨d, e, h1, h2, h3, h4, rfl⟩
  · exact .inl ⟨h1, q⟩
  · exact .inr ⟨d, e, h1, h2, h3, h4, q⟩
theorem cs_ne : CmpS X .ne fun x y H Q => rNe x y H Q ∨ rNeD X.K x y H Q := fun F R H st x y k vx vy Q so rx ry h q => by
  obtain ⟨k', h', rfl⟩ := Option.map_eq_some_iff.mp h
  rcases eqD_rule so rx ry h' with ⟨h1, rfl⟩ | ⟨d, e, h1, h2, h3, h4, rfl⟩
  · exact .inl ⟨h1, q⟩
  · exact .inr ⟨d, e, h1, h2, h3, h4, q⟩
/-! order -/
theorem ints_of : ∀ {ds : List D} {vs : List V}, Rels K F R ds vs → allInts ds = true → ∃ ns : List Int, vs = ns.map V.int ∧ ds = ns.map D.int
  | [], _, h, _ => by unfold Rels at h; subst h; exact ⟨[], rfl, rfl⟩
  | d :: ds, _, h, k => by
    unfold Rels at h
    obtain ⟨v, ws, rfl, h1, h2⟩ := h
    cases d <;> first | exact ff k | skip
    unfold Rel at h1
    subst h1
    obtain ⟨ns, e1, e2⟩ := ints_of h2 k
    rename_i i
    exact ⟨i :: ns, by rw [e1]; rfl, by rw [e2]; rfl⟩
theorem ltInts_lex : ∀ {ns ms : List Int} {k : Bool}, ltInts (ns.map D.int) (ms.map D.int) = some k → HT.lexLt ns ms = k
  | [], [], k, h => by simp [ltInts] at h; simp [HT.lexLt, h]
  | [], m :: ms, k, h => by simp [ltInts] at h; simp [HT.lexLt, h]
  | n :: ns, [], k, h => by simp [ltInts] at h; simp [HT.lexLt, h]
  | n :: ns, m :: ms, k, h => by
    simp only [List.map_cons, ltInts] at h
    by_cases e : n = m
    · rw [if_pos e] at h
      simp [HT.lexLt, e, ltInts_lex h]
    · rw [if_neg e] at h
      cases h
      simp [HT.lexLt, e]
def rInAny (K : PySem.W.Frag) (neg : Bool) : R2 := fun x y H Q => ∃ d ds, Dp K H x d ∧ (Dp K H y (.list ds) ∨ Dp K H y (.tuple ds)) ∧ SeqAt.shaped d = true ∧ SeqAt.shaped (.list ds) = true ∧ Q (.bl (neg ^^ ds.any fun z => PyData.eqv z d)) H
theorem shp_tl {ds : List PyData} (h : SeqAt.shaped (.list ds) = true) : PyData.canLay0 (.tuple ds) = true := by
  have := SeqAt.canLay_of_shaped h
  simpa [PyData.canLay0] using this
theorem op_inAny (hu : X.A.units + 65 < cLine) : OpR X (compareOp .In) (rInAny X.K false) := by
  intro pins s σ H x y v u Q I rx ry h
  obtain ⟨d, ds, hd, he, sd, se, q⟩ := h
  obtain ⟨as, r1⟩ := Dp.reads I d x v hd rx
  rw [Bool.false_xor] at q
  rcases he with he | he
  · obtain ⟨bs, r2⟩ := Dp.reads I _ y u he ry
    exact SeqAt.in_list_reads r2 r1 (SeqAt.canLay_of_shaped se) (SeqAt.canLay_of_shaped sd) (room_in_shaped sd hu) ⟨.bl _, H, I, rfl, q⟩
  · obtain ⟨bs, r2⟩ := Dp.reads I _ y u he ry
    exact SeqAt.in_tuple_reads r2 r1 (shp_tl se) (SeqAt.canLay_of_shaped sd) (room_in_shaped sd hu) ⟨.bl _, H, I, rfl, q⟩
theorem op_ninAny (hu : X.A.units + 65 < cLine) : OpR X (compareOp .NotIn) (rInAny X.K true) := by
  intro pins s σ H x y v u Q I rx ry h
  obtain ⟨d, ds, hd, he, sd, se, q⟩ := h
  obtain ⟨as, r1⟩ := Dp.reads I d x v hd rx
  rw [Bool.true_xor] at q
  rcases he with he | he
  · obtain ⟨bs, r2⟩ := Dp.reads I _ y u he ry
    exact SeqAt.notIn_list_reads r2 r1 (SeqAt.canLay_of_shaped se) (SeqAt.canLay_of_shaped sd) (room_in_shaped sd hu) ⟨.bl _, H, I, rfl, q⟩
  · obtain ⟨bs, r2⟩ := Dp.reads I _ y u he ry
    exact SeqAt.notIn_tuple_reads r2 r1 (shp_tl se) (SeqAt.canLay_of_shaped sd) (room_in_shaped sd hu) ⟨.bl _, H, I, rfl, q⟩
def rInDict (neg : Bool) : R2 := fun x y H Q => ∃ a o, y = .ref a ∧ DGet H a x o ∧ Q (.bl (neg ^^ o.isSome)) H
theorem op_inDict (hu : X.A.units + 65 < cLine) : OpR X (compareOp .In) (rInDict false) := by
  intro pins s σ H x y v u Q I rx ry ⟨a, o, e, g, q⟩
  subst e
  cases ry
  exact d_in (by omega) I g rx fun s' I' => ⟨.bl _, H, I', rfl, by rw [Bool.false_xor] at q; exact q⟩
theorem op_ninDict (hu : X.A.units + 65 < cLine) : OpR X (compareOp .NotIn) (rInDict true) := by
  intro pins s σ H x y v u Q I rx ry ⟨a, o, e, g, q⟩
  subst e
  cases ry
  exact d_notIn (by omega) I g rx fun s' I' => ⟨.bl _, H, I', rfl, by rw [Bool.true_xor] at q; exact q⟩
def rInSg (neg : Bool) : R2 := fun x y H Q => ∃ (c : Nat) (z : Str), x = .str ⟨#[c]⟩ ∧ y = .str z ∧ Q (.bl (neg ^^ decide (c ∈ z.cps.toList))) H
theorem op_inSg : OpR X (compareOp .In) (rInSg false) := by
  intro pins s σ H x y v u Q I rx ry ⟨c, z, e1, e2, q⟩
  exact op_in_sign pins s σ H x y v u Q I rx ry ⟨c, z, e1, e2, by rw [Bool.false_xor] at q; exact q⟩
theorem op_ninSg : OpR X (compareOp .NotIn) (rInSg true) := by
  intro pins s σ H x y v u Q I rx ry ⟨c, z, e1, e2, q⟩
  exact op_notIn_sign pins s σ H x y v u Q I rx ry ⟨c, z, e1, e2, by rw [Bool.true_xor] at q; exact q⟩
theorem any_toPs {x : D} (hx : okD x = true) : ∀ {ds : List D}, okDs ds = true → ((toPs ds).any fun z => PyData.eqv z (toP x)) = ds.any fun y => eqv y x
  | [], _ => rfl
  | d :: ds, h => by
    unfold okDs at h
    obtain ⟨h1, h2⟩ := b2 h
    show (PyData.eqv (toP d) (toP x) || (toPs ds).any _) = (eqv d x || ds.any _)
    rw [toP_eqv h1 hx, any_toPs hx h2]
theorem valV_look {κ : Type} [DecidableEq κ] (q : κ) : ∀ {ks : List κ} {ds : List D} {vs : List V}, ks.length = ds.length → Rels K F R ds vs → (valV (ks.zip vs) q).isSome = ks.any fun k => decide (k = q)
  | [], _, _, _, _ => by simp [valV]
  | k :: ks, [], _, e, _ => by simp at e
  | k :: ks, d :: ds, vs, e, r => by
    unfold Rels at r
    obtain ⟨v, ws, rfl, h1, h2⟩ := r
    rw [List.zip_cons_cons, List.any_cons]
    by_cases hk : k = q
    · rw [valV_pos hk]; simp [hk]
    · rw [valV_neg hk, valV_look q (by simpa using e) h2]; simp [hk]
theorem any_flip {κ : Type} [DecidableEq κ] (q : κ) (ks : List κ) : (ks.any fun k => decide (k = q)) = ks.any fun k => decide (q = k) := by
  congr 1
  funext k
  by_cases h : k = q
  · simp [h]
  · have h' : ¬ q = k := fun e => h e.symm
    simp [h, h']
theorem str_one {y : Str} (h : y.length = 1) : y = ⟨#[y.cps.getD 0 0]⟩ := by
  obtain ⟨cps⟩ := y
  have h : cps.size = 1 := h
  obtain ⟨l⟩ := cps
  simp at h
  match l, h with
  | [c], _ => rfl
theorem RelT.dp' {x : D} {vx : V} (so : StOk K F R H st) (r : RelT K F R H x vx) (h : okD x = true) : Dp K H vx (toP x) := by
  cases x <;> first
    | exact ff h
    | exact RelT.dp (st := st) so r h
/-- in, not in -/
theorem in_rule (neg : Bool) : ∀ F R H st x y k vx vy Q, StOk X.K F R H st → RelT X.K F R H x vx → RelT X.K F R H y vy → inD st x y = some k → Q (.bl (neg ^^ k)) H →
    rInAny X.K neg vx vy H Q ∨ rInDict neg vx vy H Q ∨ rInSg neg vx vy H Q := fun F R H st x y k vx vy Q so rx ry h q => by
  unfold inD at h
  cases e : derefD st y with
  | lst ds =>
    rw [e] at h
    simp only at h
    obtain ⟨h1, rfl⟩ := ite_some h
    obtain ⟨h1, h2⟩ := b2 h1
    have hr := ry.dp so (by rw [e]; exact (b2 h2).1)
    rw [e] at hr
    exact .inl ⟨_, toPs ds, rx.dp' so (b2 h1).1, .inl hr, shaped_toP h1, shaped_toP (d := .lst ds) h2, by rw [any_toPs (b2 h1).1 (b2 h2).1]; exact q⟩
  | tup ds =>
    rw [e] at h
    simp only at h
    obtain ⟨h1, rfl⟩ := ite_some h
    obtain ⟨h1, h2⟩ := b2 h1
    have hr := ry.dp so (by rw [e]; exact (b2 h2).1)
    rw [e] at hr
    exact .inl ⟨_, toPs ds, rx.dp' so (b2 h1).1, .inr hr, shaped_toP h1, shaped_toP (d := .lst ds) h2, by rw [any_toPs (b2 h1).1 (b2 h2).1]; exact q⟩
  | str z =>
    rw [e] at h
    rw [deref_id e (fun _ h => nomatch h) (fun _ h => nomatch h)] at ry
    cases x <;> first | (cases h; done) | skip
    rename_i y'
    simp only at h
    obtain ⟨h1, rfl⟩ := ite_some h
    refine .inr (.inr ⟨y'.cps.getD 0 0, z, ?_, ry.str, q⟩)
    rw [rx.str]
    exact congrArg V.str (str_one h1)
  | dk ks ds =>
    rw [e] at h
    rw [deref_id e (fun _ h => nomatch h) (fun _ h => nomatch h)] at ry
    obtain ⟨kx, h1, rfl⟩ := Option.map_eq_some_iff.mp h
    obtain ⟨a, vs, rfl, q1, q2, q3⟩ := deref_dk so ry
    refine .inr (.inl ⟨a, valV (ks.zip vs) kx, rfl, ?_, ?_⟩)
    · rw [keyD_r rx h1]; exact DGet.k q1
    · rw [valV_look kx q2 q3]; exact q
  | dt ks ds =>
    rw [e] at h
    rw [deref_id e (fun _ h => nomatch h) (fun _ h => nomatch h)] at ry
    obtain ⟨kx, h1, rfl⟩ := Option.map_eq_some_iff.mp h
    obtain ⟨a, vs, rfl, q1, q2, q3⟩ := deref_dt so ry
    obtain ⟨b, rfl, q4⟩ := keysD_r so rx h1
    refine .inr (.inl ⟨a, valV (ks.zip vs) kx, rfl, ?_, ?_⟩)
    · exact DGet.t q1 q4
    · rw [valV_look kx q2 q3]; exact q
  | _ =>
    rw [e] at h
    cases h
theorem isNon_iff {d : D} {v : V} (r : RelT K F R H d v) : decide (v = .non) = isNon d := by
  cases d with
  | non => cases r.non; simp [isNon]
  | bl _ => cases r.bl; simp [isNon]
  | int _ => cases r.int; simp [isNon]
  | str _ => cases r.str; simp [isNon]
  | ref n => obtain ⟨a, _, rfl⟩ := r.ref; simp [isNon]
  | _ =>
    rcases r with r | ⟨a, rfl, _⟩
    · unfold Rel at r
      first
        | (obtain ⟨a, vs, rfl, _⟩ := r; simp [isNon]; done)
        | (obtain ⟨a, dx, vs, rfl, _⟩ := r; simp [isNon]; done)
    · simp [isNon]
theorem lt_ints {x y : D} {xs ys : List D} {vx vy : V} {k : Bool} {Q : VK} (so : StOk X.K F R H st) (rx : RelT X.K F R H x vx) (ry : RelT X.K F R H y vy) (ex : tupD x = some xs) (ey : tupD y = some ys)
    (h : (if allInts xs && allInts ys then ltInts xs ys else none) = some k) (q : Q (.bl k) H) : rLtT X.K vx vy H Q := by
  obtain ⟨a, vs, rfl, h1, r1⟩ := tupD_F rx ex
  obtain ⟨b, ws, rfl, h2, r2⟩ := tupD_F ry ey
  split at h
  · rename_i hh
    obtain ⟨k1, k2⟩ := b2 hh
    obtain ⟨ns, rfl, rfl⟩ := ints_of r1 k1
    obtain ⟨ms, rfl, rfl⟩ := ints_of r2 k2
    exact ⟨a, b, ns, ms, rfl, rfl, sqT_same so.same h1, sqT_same so.same h2, by rw [ltInts_lex h]; exact q⟩
  · cases h
def rLtStr : R2 := fun x y H Q => ∃ i j, x = .str i ∧ y = .str j ∧ Q (.bl (decide (i.cps.toList < j.cps.toList))) H
theorem cs_lt : CmpS X .lt fun x y H Q => rI0 (fun i j => .bl (decide (i < j))) x y H Q ∨ rLtStr x y H Q ∨ rLtT X.K x y H Q := fun F R H st x y k vx vy Q so rx ry h q => by
  replace h : ltD x y = some k := h
  cases x <;> cases y <;> first
    | (cases h; done)
    | exact .inr (.inr (lt_ints so rx ry rfl rfl h q))
    | (cases h; exact .inl ⟨_, _, rx.int, ry.int, q⟩)
    | (cases h; exact .inr (.inl ⟨_, _, rx.str, ry.str, q⟩))
theorem cmp_rule {T : Tb} {cl : Cl} {M : Mc} {EX : EXT} {W : WX} (c : Ctx T cl X M EX W) {o : Co} {op : CmpOp} (h : coB o op = true) : ∃ r, OpR X (compareOp op) r ∧ CmpS X o r := by
  have hu := c.units
  cases o <;> cases op <;> first | exact ff h | skip
  · exact ⟨_, op_eq.or (op_eqD (by omega)), cs_eq⟩
  · exact ⟨_, op_ne.or (op_neD (by omega)), cs_ne⟩
  · exact ⟨_, op_lt.or (op_lt_str.or (op_ltT (by omega))), cs_lt⟩
  · exact ⟨_, op_le, fun F R H st x y k vx vy Q so rx ry h q => by
      cases x <;> cases y <;> first | (cases h; done) | skip
      cases h
      exact ⟨_, _, rx.int, ry.int, q⟩⟩
  · exact ⟨_, op_gt, fun F R H st x y k vx vy Q so rx ry h q => by
      cases x <;> cases y <;> first | (cases h; done) | skip
      cases h
      exact ⟨_, _, rx.int, ry.int, q⟩⟩
  · exact ⟨_, op_ge, fun F R H st x y k vx vy Q so rx ry h q => by
      cases x <;> cases y <;> first | (cases h; done) | skip
      cases h
      exact ⟨_, _, rx.int, ry.int, q⟩⟩
  · exact ⟨_, op_isN, fun F R H st x y k vx vy Q so rx ry h q => by
      unfold cmpD at h
      obtain ⟨h1, rfl⟩ := ite_some h
      cases y <;> first | exact ff h1 | skip
      exact ⟨ry.non, by rw [isNon_iff rx]; exact q⟩⟩
  · exact ⟨_, op_notN, fun F R H st x y k vx vy Q so rx ry h q => by
      unfold cmpD at h
      obtain ⟨h1, rfl⟩ := ite_some h
      cases y <;> first | exact ff h1 | skip
      exact ⟨ry.non, by rw [isNon_iff rx]; exact q⟩⟩
  · exact ⟨_, (op_inAny (by omega)).or ((op_inDict (by omega)).or op_inSg), fun F R H st x y k vx vy Q so rx ry h q => in_rule false F R H st x y k vx vy Q so rx ry h (by rw [Bool.false_xor]; exact q)⟩
  · exact ⟨_, (op_ninAny (by omega)).or ((op_ninDict (by omega)).or op_ninSg), fun F R H st x y k vx vy Q so rx ry h q => by
      obtain ⟨k', h', rfl⟩ := Option.map_eq_some_iff.mp h
      exact in_rule true F R H st x y k' vx vy Q so rx ry h' (by rw [Bool.true_xor]; exact q)⟩
end
section
variable {T : Tb} {cl : Cl} {a b d : Ex}
theorem tcmp_of {K : PySem.W.Frag} {EX : EXT} {W : WX} {X : Cx} {fa fb : Enw → Sto → Res D} {o : Co} {r : R2} (hs : CmpS X o r) {σ : L2.St} {H : Hp} {Q : Bool → Hp → Prop} {Q' : VK} (hq : ∀ k H', Q k H' → Q' (.bl k) H')
    (q : tT X.K EX W (fun e st => (fa e st).bind fun x s1 => (fb e s1).bind fun y s2 => ofO (cmpD s2 o x y) s2) σ H Q) :
    tOp r (tE .t X.K EX W fa) (tE .t X.K EX W fb) σ H Q' := by
  obtain ⟨F, R, env, st, so, eo, q⟩ := q
  exact ⟨F, R, env, st, so, eo, q.bind.imp fun x st1 F1 R1 H1 g1 so1 q1 => ⟨trivial, fun vx rx =>
    ⟨F1, R1, env, st1, so1, eo.grow g1, q1.bind.imp fun y st2 F2 R2 H2 g2 so2 q2 => ⟨trivial, fun vy ry => by
      obtain ⟨k, hk, q3⟩ := q2.ofO
      exact hs F2 R2 H2 st2 x y k vx vy _ so2 (RelT.grow rx g2) ry hk (hq _ _ (q3 F2 R2 H2 .refl so2))⟩⟩⟩⟩
/-- a value from a test's outcome -/
theorem tE_tT {K : PySem.W.Frag} {EX : EXT} {W : WX} {m : Md} {f : Enw → Sto → Res Bool} {σ : L2.St} {H : Hp} {Q : VK} (q : tE m K EX W (fun e st => (f e st).bind fun k s1 => .ok (.bl k) s1) σ H Q) :
    tT K EX W f σ H fun k H' => Q (.bl k) H' := by
  obtain ⟨F, R, env, st, so, eo, q⟩ := q
  refine ⟨F, R, env, st, so, eo, q.bind.imp fun k st1 F1 R1 H1 g1 so1 q1 => ?_⟩
  obtain ⟨q2, q3⟩ := Fin.of (W := W) (σ := σ) so1 g1.back q1
  exact q3.bl so1 q2
theorem snd_cmp {o : Co} (ha : Snd T cl a) (hb : Snd T cl b) : Snd T cl (.cmp o a b) where
  v := fun {X M EX W} c e h m hg => by
    obtain ⟨x, op, y, p, rfl, h1, h0, h2, h3⟩ := mat_cmp h
    obtain ⟨r, ho, hs⟩ := cmp_rule c h1
    exact pe_imp (pe_cmpR ho (ha.v c h2 .t rfl) (hb.v c h3 .t rfl) (no_mark h0)) fun σ H Q q => tcmp_of (K := X.K) hs (fun _ _ h => h) (tE_tT q)
  b := fun {X M EX W} c e h => by
    obtain ⟨x, op, y, p, rfl, h1, h0, h2, h3⟩ := mat_cmp h
    obtain ⟨r, ho, hs⟩ := cmp_rule c h1
    exact pt_imp (pt_cmpR ho (ha.v c h2 .t rfl) (hb.v c h3 .t rfl) (no_mark h0)) fun σ H Q q => tcmp_of (K := X.K) hs (fun k _ h => ⟨k, rfl, h⟩) q
theorem tchn_of {K : PySem.W.Frag} {EX : EXT} {W : WX} {X : Cx} {fa fb fc : Enw → Sto → Res D} {o p : Co} {r r' : R2} (hs : CmpS X o r) (hs' : CmpS X p r') {σ : L2.St} {H : Hp} {Q : Bool → Hp → Prop} {Q' : VK} (hq : ∀ k H', Q k H' → Q' (.bl k) H')
    (q : tT X.K EX W (fun e st => (fa e st).bind fun x s1 => (fb e s1).bind fun y s2 => (ofO (cmpD s2 o x y) s2).bind fun k s3 => if k then (fc e s3).bind fun z s4 => ofO (cmpD s4 p y z) s4 else .ok false s3) σ H Q) :
    tChain r r' (tE .t X.K EX W fa) (tE .t X.K EX W fb) (tE .t X.K EX W fc) σ H Q' := by
  obtain ⟨F, R, env, st, so, eo, q⟩ := q
  exact ⟨F, R, env, st, so, eo, q.bind.imp fun x st1 F1 R1 H1 g1 so1 q1 => ⟨trivial, fun vx rx =>
    ⟨F1, R1, env, st1, so1, eo.grow g1, q1.bind.imp fun y st2 F2 R2 H2 g2 so2 q2 => ⟨trivial, fun vy ry => by
      obtain ⟨k, hk, q3⟩ := q2.bind.ofO
      have q4 := q3 F2 R2 H2 .refl so2
      refine hs F2 R2 H2 st2 x y k vx vy _ so2 (RelT.grow rx g2) ry hk ⟨k, rfl, ?_⟩
      cases k with
      | false => exact hq _ _ (After.here q4 so2)
      | true =>
        exact ⟨F2, R2, env, st2, so2, (eo.grow g1).grow g2, After.imp (After.bind q4) fun z st4 F4 R4 H4 g4 so4 q5 => ⟨trivial, fun vz rz => by
          obtain ⟨k', hk', q6⟩ := q5.ofO
          exact hs' F4 R4 H4 st4 y z k' vy vz _ so4 (RelT.grow ry g4) rz hk' (hq _ _ (q6 F4 R4 H4 .refl so4))⟩⟩⟩⟩⟩⟩
theorem snd_chn {o p : Co} (ha : Snd T cl a) (hb : Snd T cl b) (hd : Snd T cl d) : Snd T cl (.chn o p a b d) where
  v := fun {X M EX W} c e h m hg => by
    obtain ⟨x, op, oq, y, z, pp, rfl, h1, h1', h0, h0', h2, h3, h4⟩ := mat_chn h
    obtain ⟨r, ho, hs⟩ := cmp_rule c h1
    obtain ⟨r', ho', hs'⟩ := cmp_rule c h1'
    exact pe_imp (pe_chain ho ho' (ha.v c h2 .t rfl) (hb.v c h3 .t rfl) (hd.v c h4 .t rfl) (by unfold lastMarks; unfold lastMarks; exact no_mark h0')) fun σ H Q q => tchn_of (K := X.K) hs hs' (fun _ _ h => h) (tE_tT q)
  b := fun {X M EX W} c e h => by
    obtain ⟨x, op, oq, y, z, pp, rfl, h1, h1', h0, h0', h2, h3, h4⟩ := mat_chn h
    obtain ⟨r, ho, hs⟩ := cmp_rule c h1
    obtain ⟨r', ho', hs'⟩ := cmp_rule c h1'
    exact pt_imp (pt_chain ho ho' (ha.v c h2 .t rfl) (hb.v c h3 .t rfl) (hd.v c h4 .t rfl) (by unfold lastMarks; unfold lastMarks; exact no_mark h0')) fun σ H Q q => tchn_of (K := X.K) hs hs' (fun k _ h => ⟨k, rfl, h⟩) q
theorem snd_nt (ha : Snd T cl a) : Snd T cl (.nt a) where
  v := fun {X M EX W} c e h m hg => by
    obtain ⟨x, p, rfl, h1⟩ := mat_nt h
    refine pe_imp (pe_notT (ha.v c h1 .t rfl)) fun σ H Q ⟨F, R, env, st, so, eo, q⟩ => ?_
    exact ⟨F, R, env, st, so, eo, q.bind.imp fun x st1 F1 R1 H1 g1 so1 q1 => ⟨trivial, fun vx rx => by
      obtain ⟨k, hk, q3⟩ := q1.bind.ofO
      obtain ⟨q4, q5⟩ := Fin.of (W := W) (σ := σ) so1 g1.back (q3 F1 R1 H1 .refl so1)
      exact ⟨k, tru_D so1 rx hk, q5.bl so1 q4⟩⟩⟩
  b := fun {X M EX W} c e h => by
    obtain ⟨x, p, rfl, h1⟩ := mat_nt h
    exact pt_imp (pt_not (ha.b c h1)) fun σ H Q ⟨F, R, env, st, so, eo, q⟩ => ⟨F, R, env, st, so, eo, q.bind.imp fun x st1 F1 R1 H1 g1 so1 q1 => After.here q1 so1⟩
theorem pw_of {X : Cx} {op : BoolOp} {vs : List Expr} {p : Pos} {t : TT} (h : PT X (.BoolOp op vs p) t) : PW X (.BoolOp op vs p) t := ⟨fun _ pins s σ H Q I q => h.run pins s σ H Q I q⟩
/-- the second operand of and, or -/
theorem bop_2 {X : Cx} {k : Bool} {y : Expr} {r : List Expr} {p : Pos} {t : TE} (h : (r = [] ∧ PE X y t) ∨ (r ≠ [] ∧ PE X (.BoolOp (if k then .And else .Or) (y :: r) p) t)) : PE X (.BoolOp (if k then .And else .Or) (y :: r) p) t := by
  rcases h with ⟨rfl, h⟩ | ⟨_, h⟩
  · exact pe_one h
  · exact h
theorem bop_2t {X : Cx} {k : Bool} {y : Expr} {r : List Expr} {p : Pos} {t : TT} (h : (r = [] ∧ PT X y t) ∨ (r ≠ [] ∧ PT X (.BoolOp (if k then .And else .Or) (y :: r) p) t)) : PW X (.BoolOp (if k then .And else .Or) (y :: r) p) t := by
  rcases h with ⟨rfl, h⟩ | ⟨_, h⟩
  · cases k with
    | true => exact pw_and1 h
    | false => exact pw_or1 h
  · exact pw_of h
theorem snd_bop {k : Bool} (ha : Snd T cl a) (hb : Snd T cl b) : Snd T cl (.bop k a b) where
  v := fun {X M EX W} c e h m hg => by
    obtain ⟨x, y, r, p, rfl, h1, h2⟩ := mat_bop h
    have hm : m ≠ .f := fun e => by subst e; exact ff hg
    have ga : gd m a = true := by
      cases m with
      | s => exact (b2 hg).1
      | t => rfl
      | f => exact absurd rfl hm
    have gb : gd m b = true := by
      cases m with
      | s => exact (b2 hg).2
      | t => rfl
      | f => exact absurd rfl hm
    have pb : PE X (.BoolOp (if k then .And else .Or) (y :: r) p) (tE m X.K EX W (sem T cl b).v) := bop_2 (by
      rcases h2 with ⟨e, h2⟩ | ⟨e, h2⟩
      · exact .inl ⟨e, hb.v c h2 m gb⟩
      · exact .inr ⟨e, hb.v c h2 m gb⟩)
    have pa := ha.v c h1 m ga
    have weak : ∀ {F R H H0 d v}, RR m X.K H0 F R H d v → RelT X.K F R H d v := fun {F R H H0 d v} r => by
      cases m with
      | s => exact .inl r
      | t => exact r
      | f => exact absurd rfl hm
    have ok : ∀ d, okM m d := fun d => by
      cases m with
      | s => exact trivial
      | t => exact trivial
      | f => exact absurd rfl hm
    cases k with
    | true =>
      refine pe_imp (pe_andT pa pb) fun σ H Q ⟨F, R, env, st, so, eo, q⟩ => ?_
      exact ⟨F, R, env, st, so, eo, q.bind.imp fun x st1 F1 R1 H1 g1 so1 q1 => ⟨ok _, fun vx rx => by
        obtain ⟨k, hk, q3⟩ := q1.bind.ofO
        have q4 := q3 F1 R1 H1 .refl so1
        refine ⟨k, tru_D so1 (weak rx) hk, ?_⟩
        cases k with
        | true =>
          rw [if_pos rfl]
          exact ⟨F1, R1, env, st1, so1, eo.grow g1, After.imp q4 fun z st4 F4 R4 H4 g4 so4 q5 => ⟨q5.1, fun v hv => q5.2 v (hv.back g1.back)⟩⟩
        | false =>
          rw [if_neg Bool.false_ne_true]
          exact (After.here q4 so1).2 vx rx⟩⟩
    | false =>
      refine pe_imp (pe_orT pa pb) fun σ H Q ⟨F, R, env, st, so, eo, q⟩ => ?_
      exact ⟨F, R, env, st, so, eo, q.bind.imp fun x st1 F1 R1 H1 g1 so1 q1 => ⟨ok _, fun vx rx => by
        obtain ⟨k, hk, q3⟩ := q1.bind.ofO
        have q4 := q3 F1 R1 H1 .refl so1
        refine ⟨k, tru_D so1 (weak rx) hk, ?_⟩
        cases k with
        | false =>
          rw [if_neg Bool.false_ne_true]
          exact ⟨F1, R1, env, st1, so1, eo.grow g1, After.imp q4 fun z st4 F4 R4 H4 g4 so4 q5 => ⟨q5.1, fun v hv => q5.2 v (hv.back g1.back)⟩⟩
        | true =>
          rw [if_pos rfl]
          exact (After.here q4 so1).2 vx rx⟩⟩
  b := fun {X M EX W} c e h => by
    obtain ⟨x, y, r, p, rfl, h1, h2⟩ := mat_bop h
    have pb : PW X (.BoolOp (if k then .And else .Or) (y :: r) p) (tT X.K EX W (sem T cl b).b) := bop_2t (by
      rcases h2 with ⟨e, h2⟩ | ⟨e, h2⟩
      · exact .inl ⟨e, hb.b c h2⟩
      · exact .inr ⟨e, hb.b c h2⟩)
    cases k with
    | true =>
      refine pt_imp (pw_and (ha.b c h1) pb).pt fun σ H Q ⟨F, R, env, st, so, eo, q⟩ => ?_
      exact ⟨F, R, env, st, so, eo, q.bind.imp fun k st1 F1 R1 H1 g1 so1 q1 => by
        cases k with
        | true => exact ⟨F1, R1, env, st1, so1, eo.grow g1, q1⟩
        | false => exact After.here q1 so1⟩
    | false =>
      refine pt_imp (pw_or (ha.b c h1) pb).pt fun σ H Q ⟨F, R, env, st, so, eo, q⟩ => ?_
      exact ⟨F, R, env, st, so, eo, q.bind.imp fun k st1 F1 R1 H1 g1 so1 q1 => by
        cases k with
        | false => exact ⟨F1, R1, env, st1, so1, eo.grow g1, q1⟩
        | true => exact After.here q1 so1⟩
theorem pt_ifE {X : Cx} {c x y : Expr} {p : Pos} {t ta tb : TT} (hc : PT X c t) (ha : PT X x ta) (hb : PT X y tb) : PT X (.IfExp c x y p) (fun σ H Q => t σ H fun k H1 => if k = true then ta σ H1 Q else tb σ H1 Q) := ⟨fun pins s σ H Q I h =>
  isTrue_IfExp (thn (hc.run pins s σ H _ I h) fun k s1 ⟨H1, I1, q1⟩ => by
    cases k with
    | true => exact ha.run pins s1 σ H1 Q I1 q1
    | false => exact hb.run pins s1 σ H1 Q I1 q1)⟩
theorem snd_ite (hd : Snd T cl d) (ha : Snd T cl a) (hb : Snd T cl b) : Snd T cl (.ite d a b) where
  v := fun {X M EX W} c e h m hg => by
    obtain ⟨x, y, z, p, rfl, h1, h2, h3⟩ := mat_ite h
    have ga : gd m a = true ∧ gd m b = true := by
      cases m with
      | s => exact b2 hg
      | t => exact ⟨rfl, rfl⟩
      | f => exact b2 hg
    refine pe_imp (pe_ifExp (hd.b c h1) (ha.v c h2 m ga.1) (hb.v c h3 m ga.2)) fun σ H Q ⟨F, R, env, st, so, eo, q⟩ => ?_
    exact ⟨F, R, env, st, so, eo, q.bind.imp fun k st1 F1 R1 H1 g1 so1 q1 => by
      cases k with
      | true => exact ⟨F1, R1, env, st1, so1, eo.grow g1, After.imp q1 fun z st4 F4 R4 H4 g4 so4 q5 => ⟨q5.1, fun v hv => q5.2 v (hv.back g1.back)⟩⟩
      | false => exact ⟨F1, R1, env, st1, so1, eo.grow g1, After.imp q1 fun z st4 F4 R4 H4 g4 so4 q5 => ⟨q5.1, fun v hv => q5.2 v (hv.back g1.back)⟩⟩⟩
  b := fun {X M EX W} c e h => by
    obtain ⟨x, y, z, p, rfl, h1, h2, h3⟩ := mat_ite h
    refine pt_imp (pt_ifE (hd.b c h1) (ha.b c h2) (hb.b c h3)) fun σ H Q ⟨F, R, env, st, so, eo, q⟩ => ?_
    exact ⟨F, R, env, st, so, eo, q.bind.imp fun k st1 F1 R1 H1 g1 so1 q1 => by
      cases k with
      | true => exact ⟨F1, R1, env, st1, so1, eo.grow g1, q1⟩
      | false => exact ⟨F1, R1, env, st1, so1, eo.grow g1, q1⟩⟩
end
end Nb
end
section
set_option Elab.async false
set_option linter.all false
set_option maxRecDepth 100000
set_option maxHeartbeats 4000000
/-! NbRv: a list or a tuple, backwards -/
namespace Nb
open PySem PySem.Spec PyProof.Rows L2 HT
section
variable {prog : Program} {w : World} {A : Around} {E : Value → Shared → Prop} {s : Shared}
theorem back_applied {sl : Addr} {vl vu vs : Value} {n : Nat} {Q : Int × Int × Nat → Shared → Prop} (hs : s.heap.IsSliceOf sl vl vu vs) (pl : IsPart vl none) (pu : IsPart vu none) (ps : IsPart vs (some (-1)))
    (h : Q ((n : Int) - 1, -1, n) s) : wpAny (model prog w) A (Builtin.Slice.sliceApplied (.ref sl) (pure (n : Int))) Q E s := by
  obtain ⟨os, hos, hcs, hds⟩ := id hs
  unfold Builtin.Slice.sliceApplied Builtin.Slice.sliceFields
  refine wpAny_bind (wpAny_bind (wpAny_field hos hds (x := vl) rfl (wpAny_bind (wpAny_field hos hds (x := vu) rfl (wpAny_bind (wpAny_field hos hds (x := vs) rfl (wpAny_pure ?_)))))))
  refine wpAny_bind (slicePart_ ps ?_)
  show wpAny _ _ (if ((-1 : Int) == 0) = true then _ else _) _ _ s
  rw [if_neg (by decide)]
  refine wpAny_bind (slicePart_ pl (wpAny_bind (slicePart_ pu (wpAny_bind (wpAny_pure ?_)))))
  have e : Builtin.Slice.slicePlaces ((n : Int) - 1) (-1) (-1) = n := by
    unfold Builtin.Slice.slicePlaces
    have h1 : ¬ ((-1 : Int) > 0) := by omega
    simp only [h1, if_false]
    split <;> simp <;> omega
  show wpAny _ _ (pure (((n : Int) - 1), (-1 : Int), Builtin.Slice.slicePlaces ((n : Int) - 1) (-1) (-1))) _ _ s
  rw [e]
  exact wpAny_pure h
theorem fm_congr {α β : Type} {f g : α → Option β} : ∀ {l : List α}, (∀ m ∈ l, f m = g m) → l.filterMap f = l.filterMap g
  | [], _ => rfl
  | m :: l, h => by
    rw [List.filterMap_cons, List.filterMap_cons, h m List.mem_cons_self, fm_congr fun k hk => h k (List.mem_cons_of_mem _ hk)]
theorem back_pick (xs : Array Value) : ((List.range xs.size).filterMap fun (m : Nat) => xs[((xs.size : Int) - 1 + (m : Int) * (-1)).toNat]?).toArray = xs.toList.reverse.toArray := by
  have e : (List.range xs.size).filterMap (fun (m : Nat) => xs[((xs.size : Int) - 1 + (m : Int) * (-1)).toNat]?) = ((List.range xs.size).map fun k => xs.size - 1 - k).filterMap (xs[·]?) := by
    rw [List.filterMap_map]
    refine fm_congr fun m hm => ?_
    have hm := List.mem_range.mp hm
    have : ((xs.size : Int) - 1 + (m : Int) * (-1)).toNat = xs.size - 1 - m := by omega
    show xs[((xs.size : Int) - 1 + (m : Int) * (-1)).toNat]? = xs[xs.size - 1 - m]?
    rw [this]
  rw [e, PySem.W.krv_range, List.filterMap_reverse, PySem.W.krv_all]
theorem getItem_tuple_back {t sl : Addr} {items : Array Value} {vl vu vs : Value} {Q : Value → Shared → Prop} (ht : IsTup s.heap t items) (hs : s.heap.IsSliceOf sl vl vu vs) (pl : IsPart vl none) (pu : IsPart vu none) (ps : IsPart vs (some (-1)))
    (h : Q (.ref s.heap.objs.size) { s with heap := s.heap.push { cls := .type "tuple", data := .seq items.toList.reverse.toArray } })
    (hsz : items.size ≤ sizeLine) : wpAny (model prog w) A (getItem (.ref t) (.ref sl)) Q E s := by
  have htake : sizeOk (.seq items.toList.reverse.toArray) := by
    show items.toList.reverse.toArray.size ≤ sizeLine
    rw [List.size_toArray, List.length_reverse, Array.length_toList]
    exact hsz
  obtain ⟨os, hos, hcs, hds⟩ := id hs
  have hTs : s.TypeIs (.ref sl) "slice" := ⟨os, hos, hcs⟩
  unfold getItem
  try with_reducible refine wpAny_holding ?_
  first | refine wpAny_bind (wpAny_pure ?_) | skip
  refine wpAny_bind (wpAny_sequenceKey ht.typeIs (by decide) ?_)
  refine wpAny_bind (wpAny_callSpecial?_slot (name := Str.ofString "__getitem__") ht.typeIs PyProof.Rows.slot_tuple_getitem
    (wpAny_call_entry PyProof.Rows.slot_tuple_getitem ht.typeIs entry_tuple_getitem ?_ (args_tuple_getitem _ _)))
  show wpAny _ _ (Builtin.Tuple.tupleItemsOf (.ref t) >>= _) _ _ s
  refine wpAny_bind (tupleItemsOf_ ht ?_)
  refine wpAny_bind (wpAny_typeOf hTs ?_)
  rw [if_pos (by decide)]
  refine wpAny_bind (back_applied hs pl pu ps ?_)
  have hno : ¬ ((((items.size : Int) - 1) == 0 && (-1 : Int) == 1 && items.size == items.size) = true) := by
    intro q
    rw [Bool.and_eq_true, Bool.and_eq_true] at q
    exact absurd q.1.2 (by decide)
  show wpAny _ _ (if (((items.size : Int) - 1) == 0 && (-1 : Int) == 1 && items.size == items.size) = true then _ else _) _ _ s
  rw [if_neg hno, back_pick]
  first
    | exact wpAny_bind (m := Builtin.Tuple.tupleExact _) (wpAny_newObj_type (wpAny_pure ⟨_, rfl, wpAny_pure h⟩) htake)
    | exact wpAny_bind (m := Builtin.Tuple.tupleExact _) (wpAny_newObj_type (wpAny_bind (wpAny_pure (wpAny_pure ⟨_, rfl, wpAny_pure h⟩))) htake)
    | exact wpAny_bind (wpAny_bind (m := Builtin.Tuple.tupleExact _) (wpAny_newObj_type (wpAny_pure (wpAny_pure ⟨_, rfl, wpAny_pure h⟩)) htake))
    | exact wpAny_bind (wpAny_bind (m := Builtin.Tuple.tupleExact _) (wpAny_newObj_type (wpAny_pure ⟨_, rfl, wpAny_pure h⟩) htake))
end
section
variable {X : Cx}
def tRevA (K : PySem.W.Frag) (te : TE) : TE := fun σ H Q => te σ H fun x H1 => (∃ a xs, x = .ref a ∧ SqL K H1 a xs ∧ ∀ p, H1 p = none → Q (.ref p) (upd H1 p (.lst xs.reverse))) ∨ (∃ a xs, x = .ref a ∧ SqT K H1 a xs ∧ ∀ p, H1 p = none → Q (.ref p) (upd H1 p (.tup xs.reverse)))
theorem pe_rev {e : Expr} {te : TE} {k : Nat} {p1 p2 p3 pos : Pos} (he : PE X e te) : PE X (.Subscript e (.Slice none none (some (.UnaryOp .USub (.Constant (.int 1) k p1) p2)) p3) pos) (tRevA X.K te) := by
  refine ⟨fun pins s σ H Q I h => ?_⟩
  refine Subscript_ (thn (he.run pins s σ H _ I h) fun v s1 ⟨x, H1, I1, r1, q1⟩ => ?_)
  have hst : PO X (some (.UnaryOp .USub (.Constant (.int 1) k p1) p2)) (tPart (tUn (rU fun i => .int (-i)) (tC (.int 1)))) := po_some (pe_un un_neg pe_int)
  refine wpAny_Slice (thn (po_none.run pins s1 σ H1 (fun o H2 => o = none ∧ H2 = H1) I1 ⟨rfl, rfl⟩) fun vl s2 ⟨l, H2, I2, pl, el, e2⟩ => ?_)
  subst el e2
  refine thn (po_none.run pins s2 σ H2 (fun o H3 => o = none ∧ H3 = H2) I2 ⟨rfl, rfl⟩) fun vu s3 ⟨u, H3, I3, pu, eu, e3⟩ => ?_
  subst eu e3
  refine thn (hst.run pins s3 σ H3 (fun o H4 => o = some (-1) ∧ H4 = H3) I3 ⟨1, rfl, -1, rfl, rfl, rfl⟩) fun vs s4 ⟨o, H4, I4, ps, eo, e4⟩ => ?_
  subst eo e4
  have I5 : Inv X pins σ H4 { s4 with heap := s4.heap.push { cls := .type "slice", data := .fields #[vl, vu, vs] } } := I4.kept (t' := s4.toks) fun b ob q => Heap.get?_push_of_some _ q
  rcases q1 with ⟨a, xs, ex, hx, q⟩ | ⟨a, xs, ex, hx, q⟩
  · subst ex
    cases r1
    obtain ⟨its, r, ht, hz⟩ := I5.list hx
    have hlen := r.length
    show wpAny (model X.prog X.w) X.A (subscriptTail e (.Slice none none (some (.UnaryOp .USub (.Constant (.int 1) k p1) p2)) p3) (.ref a) (.ref s4.heap.objs.size)) (EP X pins σ Q) X.xe { s4 with heap := s4.heap.push { cls := .type "slice", data := .fields #[vl, vu, vs] } }
    refine tail_any (ops := [.ref a, .ref s4.heap.objs.size]) ht.isList.typeIs (PySem.slot_list_getitem.lookup) ?_ (by with_unfolding_all rfl)
    refine wpAny_getItem_list_slice ht.isList (Heap.IsSliceOf.new _ vl vu vs) pl pu ps (by decide) ?_ (by rw [List.size_toArray]; omega)
    rw [PySem.W.krv_pick]
    refine ⟨.ref _, _, I5.laid (t' := s4.toks) (o := .lst xs.reverse) (fun b ob q => Heap.get?_push_of_some _ q) (Nat.le_refl _) ?_, rfl, q _ (I5.hok.fresh (Nat.le_refl _))⟩
    exact ⟨by rw [List.length_reverse]; exact hz, _, 0, r.reverse, Heap.get?_push_size _ rfl⟩
  · subst ex
    cases r1
    obtain ⟨its, r, ht, hz⟩ := I5.tuple hx
    have hlen : its.toArray.size = xs.length := by rw [List.size_toArray]; exact r.length.symm
    show wpAny (model X.prog X.w) X.A (subscriptTail e (.Slice none none (some (.UnaryOp .USub (.Constant (.int 1) k p1) p2)) p3) (.ref a) (.ref s4.heap.objs.size)) (EP X pins σ Q) X.xe { s4 with heap := s4.heap.push { cls := .type "slice", data := .fields #[vl, vu, vs] } }
    refine tail_any (ops := [.ref a, .ref s4.heap.objs.size]) ht.typeIs (PyProof.Rows.slot_tuple_getitem.lookup) ?_ (by with_unfolding_all rfl)
    refine getItem_tuple_back ht (Heap.IsSliceOf.new _ vl vu vs) pl pu ps ?_ (by rw [hlen]; exact hz)
    refine ⟨.ref _, _, I5.laid (t' := s4.toks) (o := .tup xs.reverse) (fun b ob q => Heap.get?_push_of_some _ q) (Nat.le_refl _) ?_, rfl, q _ (I5.hok.fresh (Nat.le_refl _))⟩
    exact ⟨by rw [List.length_reverse]; exact hz, _, r.reverse, IsTup.new _ _⟩
end
end Nb
end
section
set_option Elab.async false
set_option linter.all false
set_option maxRecDepth 100000
set_option maxHeartbeats 4000000
/-! NbI: argument lists, displays, subscripts, slices -/
namespace Nb
open PySem PySem.Spec PyProof.Rows L2

/-! ### argument lists -/
def gda : Md → Es → Bool
  | .s, es => stgs es
  | .t, _ => true
  | .f, _ => false
structure SndA (T : Tb) (cl : Cl) (es : Es) : Prop where
  a : ∀ {X M EX W}, Ctx T cl X M EX W → ∀ {xs}, mats M es xs = true → ∀ m, gda m es = true → PA X xs (tA m X.K EX W (sems T cl es))
section
variable {T : Tb} {cl : Cl}
theorem star_each {e : Expr} {es : List Expr} {env : Env} (h : ∀ x p, e ≠ .Starred x p) : starEach (e :: es) env = (false, eval e env) :: starEach es env := by
  cases e <;> first | rfl | exact absurd rfl (h _ _)
theorem mat_ns {M : Mc} {a : Ex} {e : Expr} (h : mat M a e = true) : ∀ x p, e ≠ .Starred x p := fun x p q => by
  subst q
  exact mat_star h
theorem mats_plain {M : Mc} {env : Env} {pos : Pos} : ∀ {es : Es} {xs : List Expr}, mats M es xs = true → (backTo pos (starEach xs env)).any (·.1) = false
  | .nil, xs, h => by cases mats_nil h; rfl
  | .cons a es, xs, h => by
    obtain ⟨x, r, rfl, h1, h2⟩ := mats_cons h
    rw [star_each (mat_ns h1)]
    exact mats_plain (es := es) h2
theorem RR.grow {m : Md} {K : PySem.W.Frag} {F R H F' R' H' d v} (hm : m ≠ .f) (h : RR m K H F R H d v) (g : Grow F R H F' R' H') : RR m K H' F' R' H' d v := by
  cases m with
  | s => exact Rel.mono g.sameF g.pre h
  | t => exact RelT.grow h g
  | f => exact absurd rfl hm
theorem RRs.grow {m : Md} {K : PySem.W.Frag} {F R H F' R' H'} (hm : m ≠ .f) (g : Grow F R H F' R' H') : ∀ {ds vs}, RRs m K F R H ds vs → RRs m K F' R' H' ds vs
  | [], _, h => h
  | d :: ds, _, h => by
    obtain ⟨v, ws, rfl, h1, h2⟩ := h
    exact ⟨v, ws, rfl, RR.grow hm h1 g, RRs.grow hm g h2⟩
theorem RR.h0 {m : Md} {K : PySem.W.Frag} {H0 H1 F R H d v} (hm : m ≠ .f) (h : RR m K H0 F R H d v) : RR m K H1 F R H d v := by
  cases m with
  | s => exact h
  | t => exact h
  | f => exact absurd rfl hm
theorem okM_nf {m : Md} (hm : m ≠ .f) (d : D) : okM m d := by
  cases m with
  | s => exact trivial
  | t => exact trivial
  | f => exact absurd rfl hm
theorem sndA_nil : SndA T cl .nil where
  a := fun {X M EX W} c xs h m hg => by
    cases mats_nil h
    exact pa_imp pa_nil fun σ H Q ⟨F, R, env, st, so, eo, q⟩ => After.here q so [] rfl
theorem sndA_cons {a : Ex} {es : Es} (ha : Snd T cl a) (hs : SndA T cl es) : SndA T cl (.cons a es) where
  a := fun {X M EX W} c xs h m hg => by
    obtain ⟨x, r, rfl, h1, h2⟩ := mats_cons h
    have hm : m ≠ .f := fun e => by subst e; exact ff hg
    have g1 : gd m a = true ∧ gda m es = true := by
      cases m with
      | s => exact b2 hg
      | t => exact ⟨rfl, rfl⟩
      | f => exact absurd rfl hm
    refine pa_imp (pa_cons (ha.v c h1 m g1.1) (hs.a c h2 m g1.2) (star_each (mat_ns h1))) fun σ H Q ⟨F, R, env, st, so, eo, q⟩ => ?_
    exact ⟨F, R, env, st, so, eo, q.bind.imp fun d st1 F1 R1 H1 g1 so1 q1 => ⟨okM_nf hm d, fun v hv =>
      ⟨F1, R1, env, st1, so1, eo.grow g1, q1.bind.imp fun ds st2 F2 R2 H2 g2 so2 q2 => fun vs hvs =>
        After.here q2 so2 (v :: vs) ⟨v, vs, rfl, RR.grow hm (RR.h0 hm hv) g2, hvs⟩⟩⟩⟩
theorem RRs.rels {K : PySem.W.Frag} {F R H} : ∀ {ds vs}, RRs .s K F R H ds vs → Rels K F R ds vs
  | [], _, h => by unfold Rels; exact h
  | d :: ds, _, h => by
    obtain ⟨v, ws, rfl, h1, h2⟩ := h
    exact Rels.cons h1 (RRs.rels h2)

/-! ### displays -/
theorem snd_tup {es : Es} (hs : SndA T cl es) : Snd T cl (.tup es) := Snd.mkT (fun {X M EX W} c e h m hg => by
    obtain ⟨xs, k, p, rfl, h1, h2⟩ := mat_tup h
    have hm : m ≠ .f := fun e => by subst e; exact ff hg
    refine pe_imp (pe_tup (hs.a c h2 .s h1)) fun σ H Q ⟨F, R, env, st, so, eo, q⟩ => ?_
    exact ⟨F, R, env, st, so, eo, q.bind.imp fun ds st1 F1 R1 H1 g1 so1 q1 => fun vs hvs => by
      have r := RRs.rels hvs
      split at q1
      · rename_i hz
        obtain ⟨q2, q3⟩ := Fin.of (W := W) (σ := σ) so1 g1.back q1
        exact ⟨by rw [← big_line, ← r.len]; exact hz, q3.tup so1 hm r⟩
      · exact q1.elim⟩)
  (fun {M e} h => by obtain ⟨xs, k, p, rfl, _⟩ := mat_tup h; rfl) rfl
theorem snd_lst {es : Es} (hs : SndA T cl es) : Snd T cl (.lst es) := Snd.mkT (fun {X M EX W} c e h m hg => by
    obtain ⟨xs, p, rfl, h1, h2⟩ := mat_lst h
    refine pe_imp (pe_lst (hs.a c h2 .s h1)) fun σ H Q ⟨F, R, env, st, so, eo, q⟩ => ?_
    exact ⟨F, R, env, st, so, eo, q.bind.imp fun ds st1 F1 R1 H1 g1 so1 q1 => fun vs hvs => by
      have r := RRs.rels hvs
      split at q1
      · rename_i hz
        obtain ⟨q2, q3⟩ := Fin.of (W := W) (σ := σ) so1 g1.back q1
        exact ⟨by rw [← big_line, ← r.len]; exact hz, q3.lst so1 r⟩
      · exact q1.elim⟩)
  (fun {M e} h => by obtain ⟨xs, p, rfl, _⟩ := mat_lst h; rfl) rfl

/-! ### a[i] -/
def rIxDict : R2 := fun x y H Q => ∃ a v, x = .ref a ∧ DGet H a y (some v) ∧ Q v H
theorem ix_dict {X : Cx} (hu : X.A.units + 1 < cLine) : IxR X rIxDict := by
  intro value slice pins s σ H x y v u Q I rx ry ⟨a, z, e, g, q⟩ hs
  subst e
  obtain rfl : v = Value.ref a := rx
  exact tail_any (dict_typeIs I g) PySem.F.slot_dict_getitem.lookup (d_getItem hu I g ry fun w' s3 I3 rw' => ⟨z, H, I3, rw', q⟩) hs
theorem plain_ix {b : Expr} (h : notSl b = true) : PlainIx b := fun o i => by
  cases b <;> first | exact ff h | rfl
variable {K : PySem.W.Frag}
theorem look_val {κ : Type} [DecidableEq κ] {F : Hp} {R : List Addr} (q : κ) {d : D} : ∀ {ks : List κ} {ds : List D} {vs : List V}, ks.length = ds.length → Rels K F R ds vs → lookKV ks ds q = some d → ∃ v, valV (ks.zip vs) q = some v ∧ Rel K F R d v
  | [], _, _, _, _, h => by simp [lookKV] at h
  | k :: ks, [], _, e, _, _ => by simp at e
  | k :: ks, d' :: ds, vs, e, r, h => by
    unfold Rels at r
    obtain ⟨v, ws, rfl, h1, h2⟩ := r
    rw [List.zip_cons_cons]
    by_cases hk : k = q
    · rw [valV_pos hk]
      simp [lookKV, hk] at h
      subst h
      exact ⟨v, rfl, h1⟩
    · rw [valV_neg hk]
      refine look_val q (by simpa using e) h2 ?_
      simpa [lookKV, hk] using h
def IdxS (X : Cx) (r : R2) : Prop := ∀ m F R H st x y z vx vy Q, m ≠ .f → StOk X.K F R H st → RelT X.K F R H x vx → RelT X.K F R H y vy → idxD st x y = some z → Fin m X.K F R H st z Q → r vx vy H Q
theorem at_rel {F : Hp} {R : List Addr} {ds : List D} {vs : List V} {i : Int} {d : D} (r : Rels K F R ds vs) (h : atD ds i = some d) : ∃ v, atI vs i = some v ∧ Rel K F R d v := by
  unfold atD at h
  unfold atI at h ⊢
  rw [← r.len]
  obtain ⟨j, h1, h2⟩ := Option.bind_eq_some_iff.mp h
  obtain ⟨v, h3, h4⟩ := r.get h2
  exact ⟨v, by rw [h1]; exact h3, h4⟩
theorem idx_rule {X : Cx} : IdxS X fun x y H Q => rIx X.K x y H Q ∨ rIxDict x y H Q := fun m F R H st x y z vx vy Q hm so rx ry h hf => by
  unfold idxD at h
  cases e : derefD st x with
  | tup ds =>
    rw [e] at h
    cases y <;> first | (cases h; done) | skip
    obtain ⟨a, vs, rfl, h1, h2⟩ := deref_tup so rx e
    obtain ⟨v, q1, q2⟩ := at_rel h2 h
    exact .inl (.inr (.inl ⟨a, vs, _, v, rfl, ry.int, h1, q1, hf.val so hm q2⟩))
  | lst ds =>
    rw [e] at h
    cases y <;> first | (cases h; done) | skip
    obtain ⟨a, vs, rfl, h1, h2⟩ := deref_lst so rx e
    obtain ⟨v, q1, q2⟩ := at_rel h2 h
    exact .inl (.inl ⟨a, vs, _, v, rfl, ry.int, SqL.of h1, q1, hf.val so hm q2⟩)
  | str w =>
    rw [e] at h
    rw [deref_id e (fun _ h => nomatch h) (fun _ h => nomatch h)] at rx
    cases y <;> first | (cases h; done) | skip
    simp only at h
    split at h
    · rename_i hz
      obtain ⟨c, h1, rfl⟩ := Option.map_eq_some_iff.mp h
      exact .inl (.inr (.inr ⟨w, _, c, rx.str, ry.int, by rw [← big_line]; exact hz, h1, hf.str so (okM_nf hm _)⟩))
    · cases h
  | dk ks ds =>
    rw [e] at h
    rw [deref_id e (fun _ h => nomatch h) (fun _ h => nomatch h)] at rx
    obtain ⟨k, h1, h2⟩ := Option.bind_eq_some_iff.mp h
    obtain ⟨a, vs, rfl, q1, q2, q3⟩ := deref_dk so rx
    obtain ⟨v, q4, q5⟩ := look_val k q2 q3 h2
    refine .inr ⟨a, v, rfl, ?_, hf.val so hm q5⟩
    rw [keyD_r ry h1, ← q4]
    exact DGet.k q1
  | dt ks ds =>
    rw [e] at h
    rw [deref_id e (fun _ h => nomatch h) (fun _ h => nomatch h)] at rx
    obtain ⟨k, h1, h2⟩ := Option.bind_eq_some_iff.mp h
    obtain ⟨a, vs, rfl, q1, q2, q3⟩ := deref_dt so rx
    obtain ⟨v, q4, q5⟩ := look_val k q2 q3 h2
    obtain ⟨b, rfl, q6⟩ := keysD_r so ry h1
    refine .inr ⟨a, v, rfl, ?_, hf.val so hm q5⟩
    rw [← q4]
    exact DGet.t q1 q6
  | _ => rw [e] at h; cases h
theorem snd_idx {a i : Ex} (ha : Snd T cl a) (hi : Snd T cl i) : Snd T cl (.idx a i) := Snd.mkT (fun {X M EX W} c e h m hg => by
    obtain ⟨x, y, p, rfl, h0, h1, h2⟩ := mat_idx h
    have hm : m ≠ .f := fun e => by subst e; exact ff hg
    have hu := c.units
    exact pe_imp (pe_ix (ix_seq.or (ix_dict (by omega))) (ha.v c h1 .t rfl) (hi.v c h2 .t rfl) (plain_ix h0)) (t2_of (g := idxD) fun F R H st x y z vx vy Q so rx ry hz _ hf => idx_rule m F R H st x y z vx vy Q hm so rx ry hz hf))
  (fun {M e} h => by obtain ⟨x, y, p, rfl, _⟩ := mat_idx h; rfl) rfl

/-! ### a[lo:hi] -/
def tO (K : PySem.W.Frag) (EX : EXT) (W : WX) (f : Enw → Sto → Res (Option Int)) : TO := fun σ H Q =>
  ∃ F R env st, StOk K F R H st ∧ EnvOk K EX F R H env σ ∧ After K W σ F R H (f env st) fun o _ _ _ H' => Q o H'
structure SndO (T : Tb) (cl : Cl) (o : Op) : Prop where
  o : ∀ {X M EX W}, Ctx T cl X M EX W → ∀ {e}, matO M o e = true → PO X e (tO X.K EX W (semO T cl o))
theorem sndO_no : SndO T cl .no where
  o := fun {X M EX W} c e h => by
    cases matO_no h
    exact ⟨fun pins s σ H Q I ⟨F, R, env, st, so, eo, q⟩ => po_none.run pins s σ H Q I (After.here q so)⟩
theorem sndO_so {a : Ex} (ha : Snd T cl a) : SndO T cl (.so a) where
  o := fun {X M EX W} c e h => by
    obtain ⟨x, rfl, h1⟩ := matO_so h
    refine ⟨fun pins s σ H Q I ⟨F, R, env, st, so, eo, q⟩ => (po_some (ha.v c h1 .t rfl)).run pins s σ H Q I ⟨F, R, env, st, so, eo, q.bind.imp fun d st1 F1 R1 H1 g1 so1 q1 => ⟨trivial, fun v hv => ?_⟩⟩⟩
    obtain ⟨i, h1, h2⟩ := q1.bind.ofO
    cases d <;> first | (cases h1; done) | skip
    cases h1
    exact ⟨_, RelT.int hv, After.here (h2 F1 R1 H1 .refl so1) so1⟩
theorem cut_rel {F : Hp} {R : List Addr} {ds : List D} {vs : List V} (r : Rels K F R ds vs) (lo hi : Option Int) : Rels K F R (cutD ds lo hi) (cutV vs lo hi) := by
  unfold cutD cutV
  rw [← r.len]
  exact (r.drop _).take _
theorem cutD_whole {ds : List D} {lo hi : Option Int} (h : HT.sIx ds.length 0 lo = 0 ∧ HT.sIx ds.length ds.length hi = ds.length) : cutD ds lo hi = ds := by
  unfold cutD
  rw [h.1, h.2]
  simp
def rSlc (K : PySem.W.Frag) : V → Option Int → Option Int → Hp → VK → Prop := fun x lo hi H Q => rSlA K x lo hi H Q ∨ rSlL K x lo hi H Q ∨ rSlS x lo hi H Q
theorem slc_rule {X : Cx} {m : Md} {F : Hp} {R : List Addr} {H : Hp} {st : Sto} {x z : D} {vx : V} {lo hi : Option Int} {Q : VK} (so : StOk X.K F R H st) (rx : RelT X.K F R H x vx) (h : slcD x lo hi = some z) (hm : okM m z) (hf : Fin m X.K F R H st z Q) : rSlc X.K vx lo hi H Q := by
  cases x <;> first | (cases h; done) | skip
  · rename_i w
    unfold slcD at h
    simp only at h
    obtain ⟨h1, rfl⟩ := ite_some h
    exact .inr (.inr ⟨w, rx.str, by rw [← big_line]; exact h1, hf.str so hm⟩)
  · rename_i ds
    cases h
    rcases rx with rx | ⟨_, _, _, _, r⟩
    · unfold Rel at rx
      obtain ⟨a, vs, rfl, h1, h2⟩ := rx
      have hl := h2.len
      refine .inl ⟨a, vs, rfl, .inl (.inl (so.same _ _ h1)), fun w => ?_, fun _ => hf.tup so (okM_tup hm) (cut_rel h2 lo hi)⟩
      rw [← hl] at w
      rw [cutD_whole w] at hf
      exact hf.val so (okM_tup hm) (by unfold Rel; exact ⟨a, vs, rfl, h1, h2⟩)
    · exact r.elim
  · rename_i ds
    cases h
    obtain ⟨a, vs, rfl, h1, h2⟩ := rx.lst so.same
    exact .inr (.inl ⟨a, vs, rfl, SqL.of h1, hf.lst so (cut_rel h2 lo hi)⟩)
  · rename_i ds
    cases h
    rcases rx with rx | ⟨_, _, _, _, r⟩
    · unfold Rel at rx
      obtain ⟨a, vs, rfl, h1, h2⟩ := rx
      have hl := h2.len
      refine .inl ⟨a, vs, rfl, sqT_same so.same h1, fun w => ?_, fun _ => hf.ctup so (okM_ctup hm) (cut_rel h2 lo hi)⟩
      rw [← hl] at w
      rw [cutD_whole w] at hf
      exact hf.val so (okM_ctup hm) (by unfold Rel; exact ⟨a, vs, rfl, h1, h2⟩)
    · exact r.elim
  · rename_i ds
    cases h
    obtain ⟨a, vs, rfl, h1, h2⟩ := rx.clst so.same
    exact .inr (.inl ⟨a, vs, rfl, h1, hf.lst so (cut_rel h2 lo hi)⟩)
theorem snd_slc {a : Ex} {lo hi : Op} (ha : Snd T cl a) (hl : SndO T cl lo) (hh : SndO T cl hi) : Snd T cl (.slc a lo hi) := Snd.mkT (fun {X M EX W} c e h m hg => by
    obtain ⟨x, l, g, p, q, rfl, h1, h2, h3⟩ := mat_slc h
    refine pe_imp (pe_slice (sl_tupA.or (sl_list.or sl_str)) (ha.v c h1 .t rfl) (hl.o c h2) (hh.o c h3)) fun σ H Q ⟨F, R, env, st, so, eo, q⟩ => ?_
    exact ⟨F, R, env, st, so, eo, q.bind.imp fun d st1 F1 R1 H1 g1 so1 q1 => ⟨trivial, fun vx rx =>
      ⟨F1, R1, env, st1, so1, eo.grow g1, q1.bind.imp fun l st2 F2 R2 H2 g2 so2 q2 => ⟨F2, R2, env, st2, so2, (eo.grow g1).grow g2, q2.bind.imp fun h st3 F3 R3 H3 g3 so3 q3 => by
        obtain ⟨z, hz, q4⟩ := q3.ofO
        obtain ⟨q5, q6⟩ := Fin.of (W := W) (σ := σ) so3 ((g1.trans g2).trans g3).back q4
        exact slc_rule so3 ((RelT.grow rx g2).grow g3) hz q5 q6⟩⟩⟩⟩)
  (fun {M e} h => by obtain ⟨x, l, g, p, q, rfl, _⟩ := mat_slc h; rfl) rfl
theorem rev_rule {X : Cx} {m : Md} {F : Hp} {R : List Addr} {H : Hp} {st : Sto} {x z : D} {vx : V} {Q : VK} (so : StOk X.K F R H st) (rx : RelT X.K F R H x vx) (h : revD x = some z) (hm : okM m z) (hf : Fin m X.K F R H st z Q) :
    (∃ a xs, vx = .ref a ∧ SqL X.K H a xs ∧ ∀ p, H p = none → Q (.ref p) (upd H p (.lst xs.reverse))) ∨ (∃ a xs, vx = .ref a ∧ SqT X.K H a xs ∧ ∀ p, H p = none → Q (.ref p) (upd H p (.tup xs.reverse))) := by
  cases x <;> first | (cases h; done) | skip
  · rename_i ds
    cases h
    rcases rx with rx | ⟨_, _, _, _, r⟩
    · unfold Rel at rx
      obtain ⟨a, vs, rfl, h1, h2⟩ := rx
      exact .inr ⟨a, vs, rfl, .inl (.inl (so.same _ _ h1)), hf.tup so (okM_tup hm) (Rels.rev h2)⟩
    · exact r.elim
  · rename_i ds
    cases h
    obtain ⟨a, vs, rfl, h1, h2⟩ := rx.lst so.same
    exact .inl ⟨a, vs, rfl, SqL.of h1, hf.lst so (Rels.rev h2)⟩
  · rename_i ds
    cases h
    rcases rx with rx | ⟨_, _, _, _, r⟩
    · unfold Rel at rx
      obtain ⟨a, vs, rfl, h1, h2⟩ := rx
      exact .inr ⟨a, vs, rfl, sqT_same so.same h1, hf.ctup so (okM_ctup hm) (Rels.rev h2)⟩
    · exact r.elim
theorem snd_rev {a : Ex} (ha : Snd T cl a) : Snd T cl (.rev a) := Snd.mkT (fun {X M EX W} c e h m hg => by
    obtain ⟨x, k, p1, p2, p3, q, rfl, h1⟩ := mat_rev h
    refine pe_imp (pe_rev (ha.v c h1 .t rfl)) fun σ H Q ⟨F, R, env, st, so, eo, q⟩ => ?_
    exact ⟨F, R, env, st, so, eo, q.bind.imp fun d st1 F1 R1 H1 g1 so1 q1 => ⟨trivial, fun vx rx => by
        obtain ⟨z, hz, q4⟩ := q1.ofO
        obtain ⟨q5, q6⟩ := Fin.of (W := W) (σ := σ) so1 g1.back q4
        exact rev_rule so1 rx hz q5 q6⟩⟩)
  (fun {M e} h => by obtain ⟨x, k, p1, p2, p3, q, rfl, _⟩ := mat_rev h; rfl) rfl
end
end Nb
end
section
set_option Elab.async false
set_option linter.all false
set_option maxRecDepth 100000
set_option maxHeartbeats 4000000
/-! NbJ: calls of built-ins -/
namespace Nb
open PySem PySem.Spec PyProof.Rows L2

/-! ### sorting -/
section
variable {α : Type} (key : α → Int)
theorem insBy_perm (x : α) : ∀ l : List α, (insBy key x l).Perm (x :: l)
  | [] => List.Perm.refl _
  | y :: ys => by
    unfold insBy
    split
    · exact List.Perm.refl _
    · exact ((insBy_perm x ys).cons y).trans (List.Perm.swap x y ys)
theorem sortBy_perm : ∀ l : List α, (sortBy key l).Perm l
  | [] => List.Perm.refl _
  | x :: xs => (insBy_perm key x _).trans ((sortBy_perm xs).cons x)
theorem insBy_pw (x : α) : ∀ l : List α, l.Pairwise (fun a b => key a ≤ key b) → (insBy key x l).Pairwise (fun a b => key a ≤ key b)
  | [], _ => by simp [insBy]
  | y :: ys, h => by
    unfold insBy
    have h1 := List.pairwise_cons.mp h
    split
    · rename_i hxy
      refine List.pairwise_cons.mpr ⟨fun z hz => ?_, h⟩
      rcases List.mem_cons.mp hz with rfl | hz
      · exact hxy
      · exact Int.le_trans hxy (h1.1 z hz)
    · rename_i hxy
      refine List.pairwise_cons.mpr ⟨fun z hz => ?_, insBy_pw x ys h1.2⟩
      rcases List.mem_cons.mp ((insBy_perm key x ys).mem_iff.mp hz) with rfl | hz
      · omega
      · exact h1.1 z hz
theorem sortBy_pw : ∀ l : List α, (sortBy key l).Pairwise (fun a b => key a ≤ key b)
  | [] => List.Pairwise.nil
  | x :: xs => insBy_pw key x _ (sortBy_pw xs)
/-- what is in order by a key that tells apart is one list -/
theorem sort_one : ∀ {l m : List α}, l.Perm m → l.Pairwise (fun a b => key a ≤ key b) → m.Pairwise (fun a b => key a ≤ key b) → (∀ a ∈ l, ∀ b ∈ l, key a = key b → a = b) → l = m
  | [], m, p, _, _, _ => by rw [List.nil_perm.mp p]
  | x :: l, m, p, hl, hm, inj => by
    cases m with
    | nil => exact absurd (List.perm_nil.mp p) (by simp)
    | cons y m =>
      have h1 := List.pairwise_cons.mp hl
      have h2 := List.pairwise_cons.mp hm
      have hy : y ∈ x :: l := p.mem_iff.mpr (List.mem_cons_self ..)
      have hx : x ∈ y :: m := p.mem_iff.mp (List.mem_cons_self ..)
      have k1 : key x ≤ key y := by
        rcases List.mem_cons.mp hy with e | hy
        · rw [e]; exact Int.le_refl _
        · exact h1.1 y hy
      have k2 : key y ≤ key x := by
        rcases List.mem_cons.mp hx with e | hx
        · rw [e]; exact Int.le_refl _
        · exact h2.1 x hx
      have e := inj x (List.mem_cons_self ..) y hy (by omega)
      subst e
      rw [sort_one (l := l) (m := m) ((List.perm_cons _).mp p) h1.2 h2.2 fun a ha b hb => inj a (List.mem_cons_of_mem _ ha) b (List.mem_cons_of_mem _ hb)]
end
section
variable {K : PySem.W.Frag} {F : Hp} {R : List Addr} {H : Hp} {st : Sto}
theorem ints_vals : ∀ {ds : List D} {vs : List V} {ns : List Int}, Rels K F R ds vs → asInts ds = some ns → vs = ns.map V.int ∧ ds = ns.map D.int
  | [], _, ns, h, e => by unfold Rels at h; subst h; cases e; exact ⟨rfl, rfl⟩
  | d :: ds, _, ns, h, e => by
    unfold Rels at h
    obtain ⟨v, ws, rfl, h1, h2⟩ := h
    cases d <;> first | (cases e; done) | skip
    unfold asInts at e
    obtain ⟨ms, e1, rfl⟩ := Option.map_eq_some_iff.mp e
    unfold Rel at h1
    subst h1
    obtain ⟨e2, e3⟩ := ints_vals h2 e1
    exact ⟨by rw [e2]; rfl, by rw [e3]; rfl⟩
theorem bls_vals : ∀ {ds : List D} {vs : List V} {ns : List Bool}, Rels K F R ds vs → asBls ds = some ns → vs = ns.map V.bl
  | [], _, ns, h, e => by unfold Rels at h; subst h; cases e; rfl
  | d :: ds, _, ns, h, e => by
    unfold Rels at h
    obtain ⟨v, ws, rfl, h1, h2⟩ := h
    cases d <;> first | (cases e; done) | skip
    unfold asBls at e
    obtain ⟨ms, e1, rfl⟩ := Option.map_eq_some_iff.mp e
    unfold Rel at h1
    subst h1
    rw [bls_vals h2 e1]; rfl
theorem rels_ints : ∀ ns : List Int, Rels K F R (ns.map D.int) (ns.map V.int)
  | [] => Rels.nil
  | n :: ns => Rels.cons (by unfold Rel; rfl) (rels_ints ns)
theorem Rels.perm : ∀ {ds : List D} {vs ws : List V}, Rels K F R ds vs → vs.Perm ws → ∃ es, ds.Perm es ∧ Rels K F R es ws := fun {ds vs ws} r p => by
  induction p generalizing ds with
  | nil => exact ⟨ds, List.Perm.refl _, r⟩
  | cons x p ih =>
    cases ds with
    | nil => unfold Rels at r; cases r
    | cons d ds =>
      unfold Rels at r
      obtain ⟨v, us, e, h1, h2⟩ := r
      cases e
      obtain ⟨es, q1, q2⟩ := ih h2
      exact ⟨d :: es, q1.cons d, Rels.cons h1 q2⟩
  | swap x y l =>
    cases ds with
    | nil => unfold Rels at r; cases r
    | cons d ds =>
      cases ds with
      | nil =>
        unfold Rels at r
        obtain ⟨v, us, e, h1, h2⟩ := r
        unfold Rels at h2
        subst h2
        cases e
      | cons d' ds =>
        unfold Rels at r
        obtain ⟨v, us, e, h1, h2⟩ := r
        unfold Rels at h2
        obtain ⟨v', us', e', h1', h2'⟩ := h2
        subst e'
        cases e
        exact ⟨d' :: d :: ds, List.Perm.swap d' d ds, Rels.cons h1' (Rels.cons h1 h2')⟩
  | trans p q ih1 ih2 =>
    obtain ⟨es, q1, q2⟩ := ih1 r
    obtain ⟨fs, q3, q4⟩ := ih2 q2
    exact ⟨fs, q1.trans q3, q4⟩
end

/-! ### the rules, by values -/
def BiS (X : Cx) (b : Bi) (r : List V → Hp → VK → Prop) : Prop := ∀ m F R H st ds vs z Q, StOk X.K F R H st → RRs .t X.K F R H ds vs → biD st b ds = some z → okM m z → Fin m X.K F R H st z Q → r vs H Q
section
variable {X : Cx} {F : Hp} {R : List Addr} {H : Hp} {st : Sto}
theorem one_arg {K : PySem.W.Frag} {d : D} {vs : List V} (r : RRs .t K F R H [d] vs) : ∃ v, vs = [v] ∧ RelT K F R H d v := by
  obtain ⟨v, ws, rfl, h1, h2⟩ := r
  cases h2
  exact ⟨v, rfl, h1⟩
theorem two_args {K : PySem.W.Frag} {d e : D} {vs : List V} (r : RRs .t K F R H [d, e] vs) : ∃ v w, vs = [v, w] ∧ RelT K F R H d v ∧ RelT K F R H e w := by
  obtain ⟨v, ws, rfl, h1, h2⟩ := r
  obtain ⟨w, ws, rfl, h3, h4⟩ := h2
  cases h4
  exact ⟨v, w, rfl, h1, h3⟩
theorem lstD_r {K : PySem.W.Frag} {d : D} {v : V} {xs : List D} (so : StOk K F R H st) (r : RelT K F R H d v) (h : lstD st d = some xs) : ∃ a vs, v = .ref a ∧ SqL K H a vs ∧ Rels K F R xs vs := by
  unfold lstD at h
  cases e : derefD st d with
  | lst ds =>
    rw [e] at h
    cases h
    obtain ⟨a, vs, h1, h2, h3⟩ := deref_lst so r e
    exact ⟨a, vs, h1, SqL.of h2, h3⟩
  | _ => rw [e] at h; cases h
theorem seqD_r {K : PySem.W.Frag} {d : D} {v : V} {xs : List D} (so : StOk K F R H st) (r : RelT K F R H d v) (h : seqD st d = some xs) : ∃ a vs, v = .ref a ∧ (SqL K H a vs ∨ SqT K H a vs) ∧ Rels K F R xs vs := by
  unfold seqD at h
  cases e : derefD st d with
  | lst ds =>
    rw [e] at h
    cases h
    obtain ⟨a, vs, h1, h2, h3⟩ := deref_lst so r e
    exact ⟨a, vs, h1, .inl (SqL.of h2), h3⟩
  | tup ds =>
    rw [e] at h
    cases h
    obtain ⟨a, vs, h1, h2, h3⟩ := deref_tup so r e
    exact ⟨a, vs, h1, .inr h2, h3⟩
  | _ => rw [e] at h; cases h
theorem bi_args {b : Bi} {ds : List D} {z : D} (h : biD st b ds = some z) (hb : biAr b = 1) : ∃ d, ds = [d] := by
  rcases ds with _ | ⟨d, _ | ⟨e, ds⟩⟩
  · cases b <;> cases h
  · exact ⟨d, rfl⟩
  · cases b <;> first | (cases hb; done) | skip
    all_goals first
      | (cases h; done)
      | (cases d <;> first | (cases h; done) | skip)
theorem bs_len : BiS X .len fun xs H Q => ∃ x n, xs = [x] ∧ LenV X.K x H n ∧ Q (.int n) H := fun m F R H st ds vs z Q so r h hm hf => by
  obtain ⟨d, rfl⟩ := bi_args h rfl
  obtain ⟨v, rfl, r1⟩ := one_arg r
  clear r
  have r := r1
  clear r1
  obtain ⟨n, h1, rfl⟩ := Option.map_eq_some_iff.mp h
  refine ⟨v, n, rfl, ?_, hf.int so hm⟩
  unfold lenD at h1
  cases e : derefD st d with
  | lst ds =>
    rw [e] at h1
    cases h1
    obtain ⟨a, vs, rfl, h2, h3⟩ := deref_lst so r e
    exact .inl ⟨vs, SqL.of h2, h3.len⟩
  | tup ds =>
    rw [e] at h1
    cases h1
    obtain ⟨a, vs, rfl, h2, h3⟩ := deref_tup so r e
    exact .inr ⟨vs, h2, h3.len⟩
  | str w =>
    rw [e] at h1
    rw [deref_id e (fun _ h => nomatch h) (fun _ h => nomatch h)] at r
    obtain ⟨h2, rfl⟩ := ite_some h1
    rw [r.str]
    exact ⟨by rw [← big_line]; exact h2, rfl⟩
  | _ => rw [e] at h1; cases h1
theorem bs_abs : BiS X .abs fun xs H Q => ∃ i, xs = [.int i] ∧ Q (.int (if i < 0 then -i else i)) H := fun m F R H st ds vs z Q so r h hm hf => by
  obtain ⟨d, rfl⟩ := bi_args h rfl
  obtain ⟨v, rfl, r1⟩ := one_arg r
  clear r
  have r := r1
  clear r1
  cases d <;> first | (cases h; done) | skip
  cases h
  exact ⟨_, by rw [r.int], hf.int so hm⟩
theorem bs_int : BiS X .int fun xs H Q => (∃ i, xs = [.int i] ∧ Q (.int i) H) ∨ ∃ k, xs = [.bl k] ∧ Q (.int (if k then 1 else 0)) H := fun m F R H st ds vs z Q so r h hm hf => by
  obtain ⟨d, rfl⟩ := bi_args h rfl
  obtain ⟨v, rfl, r1⟩ := one_arg r
  clear r
  have r := r1
  clear r1
  cases d <;> first | (cases h; done) | skip
  · cases h
    exact .inr ⟨_, by rw [r.bl], hf.int so hm⟩
  · cases h
    exact .inl ⟨_, by rw [r.int], hf.int so hm⟩
theorem bs_bool : BiS X .bool fun xs H Q => (∃ i, xs = [.int i] ∧ Q (.bl (i != 0)) H) ∨ ∃ k, xs = [.bl k] ∧ Q (.bl k) H := fun m F R H st ds vs z Q so r h hm hf => by
  obtain ⟨d, rfl⟩ := bi_args h rfl
  obtain ⟨v, rfl, r1⟩ := one_arg r
  clear r
  have r := r1
  clear r1
  cases d <;> first | (cases h; done) | skip
  · cases h
    exact .inr ⟨_, by rw [r.bl], hf.bl so hm⟩
  · cases h
    exact .inl ⟨_, by rw [r.int], hf.bl so hm⟩
theorem bs_tup : BiS X .tup fun xs H Q => ∃ p ys, xs = [.ref p] ∧ ((SqL X.K H p ys ∧ ∀ l, H l = none → Q (.ref l) (upd H l (.tup ys))) ∨ (SqT X.K H p ys ∧ Q (.ref p) H)) := fun m F R H st ds vs z Q so r h hm hf => by
  obtain ⟨d, rfl⟩ := bi_args h rfl
  obtain ⟨v, rfl, r1⟩ := one_arg r
  clear r
  have r := r1
  clear r1
  by_cases hc : ∃ xs, d = .ctup xs
  · obtain ⟨xs, rfl⟩ := hc
    cases h
    obtain ⟨a, vs, rfl, h1, h2⟩ := tupD_F r rfl
    exact ⟨a, vs, rfl, .inr ⟨sqT_same so.same h1, hf.val so (okM_ctup hm) (by unfold Rel; exact ⟨a, vs, rfl, h1, h2⟩)⟩⟩
  · have h' : (seqD st d).map D.tup = some z := by
      cases d <;> first | exact absurd ⟨_, rfl⟩ hc | exact h
    obtain ⟨xs, h1, rfl⟩ := Option.map_eq_some_iff.mp h'
    have hmf := okM_tup hm
    unfold seqD at h1
    cases e : derefD st d with
    | lst ds =>
      rw [e] at h1
      cases h1
      obtain ⟨a, vs, rfl, h2, h3⟩ := deref_lst so r e
      exact ⟨a, vs, rfl, .inl ⟨SqL.of h2, hf.tup so hmf h3⟩⟩
    | tup ds =>
      rw [e] at h1
      cases h1
      have hd : d = .tup xs := by
        cases d with
        | ref n =>
          unfold derefD at e
          cases e2 : st[n]? with
          | none => simp only [e2] at e; cases e
          | some o => cases o; simp only [e2] at e; cases e
        | ctup xs => exact absurd ⟨_, rfl⟩ hc
        | _ => first | exact e | (cases e; done) | rfl
      subst hd
      obtain ⟨a, vs, rfl, h2, h3⟩ := r.tup so.same
      rcases r with r | ⟨_, _, _, _, r⟩
      · exact ⟨a, vs, rfl, .inr ⟨.inl (.inl h2), hf.val so hmf r⟩⟩
      · exact r.elim
    | _ => rw [e] at h1; cases h1
theorem bs_lst : BiS X .lst fun xs H Q => ∃ p ys, xs = [.ref p] ∧ (SqL X.K H p ys ∨ SqT X.K H p ys) ∧ ∀ l, H l = none → Q (.ref l) (upd H l (.lst ys)) := fun m F R H st ds vs z Q so r h hm hf => by
  obtain ⟨d, rfl⟩ := bi_args h rfl
  obtain ⟨v, rfl, r1⟩ := one_arg r
  clear r
  have r := r1
  clear r1
  obtain ⟨xs, h1, rfl⟩ := Option.map_eq_some_iff.mp h
  obtain ⟨a, vs, rfl, h2, h3⟩ := seqD_r so r h1
  exact ⟨a, vs, rfl, h2, hf.lst so h3⟩
/-- sum(t) of a tuple of ints -/
def rSumT (K : PySem.W.Frag) : List V → Hp → VK → Prop := fun vs H Q => ∃ (a : Addr) (ns : List Int), vs = [V.ref a] ∧ SqT K H a (ns.map V.int) ∧ Q (.int ns.sum) H
theorem cr_sumT (hc : X.calm = true) : CallR X (.builtin "sum") (rSumT X.K) := by
  intro pins s σ H vs us Q I r h
  obtain ⟨a, ns, rfl, hs, q⟩ := h
  obtain ⟨its, rv, hl, _⟩ := I.tuple hs
  rw [Vals.ref1 r]
  have hi := rv.ints
  obtain ⟨xs, hx⟩ := hi.allInts.items
  have hn : numsOf (its.toArray).toList = ns := by rw [show its.toArray.toList = its from rfl, hi.numsOf]
  rw [hx] at hl hn
  rw [nums_intItems] at hn
  refine PySem.W.ktm_sumG (I.ok.hd hc) hl fun h' tk t' hk => ?_
  rw [preSum_eq, List.take_of_length_le (by simp), hn]
  exact ⟨.int _, H, I.kept hk, ⟨_, rfl⟩, q⟩
theorem bs_sum : BiS X .sum (fun vs H Q => rSum X.K vs H Q ∨ rSumT X.K vs H Q) := fun m F R H st ds vs z Q so r h hm hf => by
  obtain ⟨d, rfl⟩ := bi_args h rfl
  obtain ⟨v, rfl, r1⟩ := one_arg r
  clear r
  have r := r1
  clear r1
  obtain ⟨xs, h1, h2⟩ := Option.bind_eq_some_iff.mp h
  obtain ⟨ns, h3, rfl⟩ := Option.map_eq_some_iff.mp h2
  obtain ⟨a, vs, rfl, h4, h5⟩ := seqD_r so r h1
  obtain ⟨rfl, rfl⟩ := ints_vals h5 h3
  rcases h4 with h4 | h4
  · exact .inl ⟨a, ns, rfl, h4, hf.int so hm⟩
  · exact .inr ⟨a, ns, rfl, h4, hf.int so hm⟩
theorem minI_ok : ∀ {ns : List Int}, ns ≠ [] → minI ns ∈ ns ∧ ∀ y ∈ ns, minI ns ≤ y
  | [a], _ => ⟨List.mem_cons_self .., fun y hy => by simp at hy; subst hy; exact Int.le_refl _⟩
  | a :: b :: l, _ => by
    obtain ⟨h1, h2⟩ := minI_ok (ns := b :: l) (by simp)
    unfold minI
    refine ⟨?_, fun y hy => ?_⟩
    · by_cases h : a ≤ minI (b :: l)
      · rw [Int.min_eq_left h]; exact List.mem_cons_self ..
      · rw [Int.min_eq_right (by omega)]; exact List.mem_cons_of_mem _ h1
    · rcases List.mem_cons.mp hy with rfl | hy
      · omega
      · have := h2 y hy; omega
theorem maxI_ok : ∀ {ns : List Int}, ns ≠ [] → maxI ns ∈ ns ∧ ∀ y ∈ ns, y ≤ maxI ns
  | [a], _ => ⟨List.mem_cons_self .., fun y hy => by simp at hy; subst hy; exact Int.le_refl _⟩
  | a :: b :: l, _ => by
    obtain ⟨h1, h2⟩ := maxI_ok (ns := b :: l) (by simp)
    unfold maxI
    refine ⟨?_, fun y hy => ?_⟩
    · by_cases h : maxI (b :: l) ≤ a
      · rw [Int.max_eq_left h]; exact List.mem_cons_self ..
      · rw [Int.max_eq_right (by omega)]; exact List.mem_cons_of_mem _ h1
    · rcases List.mem_cons.mp hy with rfl | hy
      · omega
      · have := h2 y hy; omega
/-- which of two is wanted: the least, the greatest -/
def btD (mx : Bool) (xs : List PyData) (i j : Nat) : Bool := if mx then PySem.W.dataLt (xs.getD j .none) (xs.getD i .none) else PySem.W.dataLt (xs.getD i .none) (xs.getD j .none)
/-- min(xs), max(xs) of data that can be compared -/
def rBest (mx : Bool) (K : PySem.W.Frag) : List V → Hp → VK → Prop := fun vs H Q => ∃ (a : Addr) (ws : List V) (x : PyData) (xs : List PyData), vs = [V.ref a] ∧ (SqL K H a ws ∨ SqT K H a ws) ∧ DpAll K H ws (x :: xs) ∧ PySem.W.AlikeAll (x :: xs) ∧ PyData.depthAll (x :: xs) ≤ 60 ∧
  ∀ v, ws[argBest (btD mx (x :: xs)) xs.length]? = some v → Q v H
theorem vals_at {xs : List V} {us : List Value} {i : Nat} {u : Value} (r : Vals xs us) (h : us[i]? = some u) : ∃ v, xs[i]? = some v ∧ RelV v u := by
  cases e : xs[i]? with
  | none => rw [r.none_of e] at h; cases h
  | some v =>
    obtain ⟨u', e1, e2⟩ := r.get e
    rw [h] at e1; cases e1
    exact ⟨v, rfl, e2⟩
theorem cr_minDat (hc : X.calm = true) (hu : X.A.units + 200 < cLine) : CallR X (.builtin "min") (rBest false X.K) := by
  intro pins s σ H vs us Q I r h
  obtain ⟨a, ws, x, xs, rfl, hs, hd, hal, hdep, q⟩ := h
  rw [Vals.ref1 r]
  rcases hs with hs | hs
  · obtain ⟨its, rv, hl, _⟩ := I.list hs
    obtain ⟨as, hr⟩ := Dp.readsAll I (x :: xs) ws its hd rv
    have hn : its.toArray.size = xs.length + 1 := PySem.W.readsAll_len (vs := its.toArray) hr
    refine PySem.call_min_walkH (PySem.W.iter_listW (A := X.A.in1) (I.ok.hd hc) hl.isList fun s₂ e W st hfp hw hk => ?_)
    refine ⟨_, _, _, _, _, _, _, s.heap, _, rfl, W, st, hfp, by omega, hw, hk, PySem.W.cmpIn_lt (A := X.A.in1) (vs := its.toArray) hr hal (by show X.A.units + 1 + _ < _; omega), fun v s' hP m => ?_⟩
    obtain ⟨h', tk, rfl, hk'⟩ := PySem.W.moved_old e rfl m
    rw [show its.toArray.size - 1 = xs.length from by omega] at hP
    obtain ⟨w, hw1, hw2⟩ := vals_at rv (by simpa using hP)
    exact ⟨w, H, I.kept hk', hw2, q w hw1⟩
  · obtain ⟨its, rv, hl, _⟩ := I.tuple hs
    obtain ⟨as, hr⟩ := Dp.readsAll I (x :: xs) ws its hd rv
    have hn : its.toArray.size = xs.length + 1 := PySem.W.readsAll_len (vs := its.toArray) hr
    refine PySem.call_min_walkH (PySem.W.iter_tupleW (A := X.A.in1) (I.ok.hd hc) hl fun s₂ e W st hfp hw hk => ?_)
    refine ⟨_, _, _, _, _, _, _, s.heap, _, rfl, W, st, hfp, by omega, hw, hk, PySem.W.cmpIn_lt (A := X.A.in1) (vs := its.toArray) hr hal (by show X.A.units + 1 + _ < _; omega), fun v s' hP m => ?_⟩
    obtain ⟨h', tk, rfl, hk'⟩ := PySem.W.moved_old e rfl m
    rw [show its.toArray.size - 1 = xs.length from by omega] at hP
    obtain ⟨w, hw1, hw2⟩ := vals_at rv (by simpa using hP)
    exact ⟨w, H, I.kept hk', hw2, q w hw1⟩
theorem cr_maxDat (hc : X.calm = true) (hu : X.A.units + 200 < cLine) : CallR X (.builtin "max") (rBest true X.K) := by
  intro pins s σ H vs us Q I r h
  obtain ⟨a, ws, x, xs, rfl, hs, hd, hal, hdep, q⟩ := h
  rw [Vals.ref1 r]
  rcases hs with hs | hs
  · obtain ⟨its, rv, hl, _⟩ := I.list hs
    obtain ⟨as, hr⟩ := Dp.readsAll I (x :: xs) ws its hd rv
    have hn : its.toArray.size = xs.length + 1 := PySem.W.readsAll_len (vs := its.toArray) hr
    refine PySem.call_max_walkH (PySem.W.iter_listW (A := X.A.in1) (I.ok.hd hc) hl.isList fun s₂ e W st hfp hw hk => ?_)
    refine ⟨_, _, _, _, _, _, _, s.heap, _, rfl, W, st, hfp, by omega, hw, hk, PySem.W.cmpIn_gt (A := X.A.in1) (vs := its.toArray) hr hal (by show X.A.units + 1 + _ < _; omega), fun v s' hP m => ?_⟩
    obtain ⟨h', tk, rfl, hk'⟩ := PySem.W.moved_old e rfl m
    rw [show its.toArray.size - 1 = xs.length from by omega] at hP
    obtain ⟨w, hw1, hw2⟩ := vals_at rv (by simpa using hP)
    exact ⟨w, H, I.kept hk', hw2, q w hw1⟩
  · obtain ⟨its, rv, hl, _⟩ := I.tuple hs
    obtain ⟨as, hr⟩ := Dp.readsAll I (x :: xs) ws its hd rv
    have hn : its.toArray.size = xs.length + 1 := PySem.W.readsAll_len (vs := its.toArray) hr
    refine PySem.call_max_walkH (PySem.W.iter_tupleW (A := X.A.in1) (I.ok.hd hc) hl fun s₂ e W st hfp hw hk => ?_)
    refine ⟨_, _, _, _, _, _, _, s.heap, _, rfl, W, st, hfp, by omega, hw, hk, PySem.W.cmpIn_gt (A := X.A.in1) (vs := its.toArray) hr hal (by show X.A.units + 1 + _ < _; omega), fun v s' hP m => ?_⟩
    obtain ⟨h', tk, rfl, hk'⟩ := PySem.W.moved_old e rfl m
    rw [show its.toArray.size - 1 = xs.length from by omega] at hP
    obtain ⟨w, hw1, hw2⟩ := vals_at rv (by simpa using hP)
    exact ⟨w, H, I.kept hk', hw2, q w hw1⟩
theorem toPs_getD : ∀ (xs : List D) (i : Nat), (toPs xs).getD i .none = toP (xs.getD i .non)
  | [], _ => by simp [toPs, toP]
  | x :: xs, 0 => by simp [toPs]
  | x :: xs, i + 1 => by simpa [toPs] using toPs_getD xs i
theorem toPs_lenD : ∀ xs : List D, (toPs xs).length = xs.length
  | [] => rfl
  | x :: xs => by simp [toPs, toPs_lenD xs]
theorem mem_toPs : ∀ {xs : List D} {p : PyData}, p ∈ toPs xs → ∃ x ∈ xs, p = toP x
  | [], _, h => absurd h (by simp [toPs])
  | x :: xs, p, h => by
    unfold toPs at h
    rcases List.mem_cons.mp h with rfl | h
    · exact ⟨x, List.mem_cons_self, rfl⟩
    · obtain ⟨y, hy, e⟩ := mem_toPs h
      exact ⟨y, List.mem_cons_of_mem _ hy, e⟩
theorem okDs_of : ∀ {xs : List D}, (∀ x ∈ xs, okD x = true) → okDs xs = true
  | [], _ => rfl
  | x :: xs, h => by
    unfold okDs
    rw [h x List.mem_cons_self, okDs_of fun y hy => h y (List.mem_cons_of_mem _ hy)]
    rfl
theorem depthAll_le : ∀ {xs : List D}, (∀ x ∈ xs, (toP x).depth ≤ 60) → PyData.depthAll (toPs xs) ≤ 60
  | [], _ => by simp [toPs, PyData.depthAll]
  | x :: xs, h => by
    unfold toPs PyData.depthAll
    have h1 := h x List.mem_cons_self
    have h2 := depthAll_le (xs := xs) fun y hy => h y (List.mem_cons_of_mem _ hy)
    omega
theorem rels_dp {K : PySem.W.Frag} : ∀ {ds : List D} {vs : List V}, StOk K F R H st → Rels K F R ds vs → (∀ x ∈ ds, okD x = true) → DpAll K H vs (toPs ds)
  | [], _, so, r, _ => by unfold Rels at r; subst r; exact .nil
  | d :: ds, _, so, r, h => by
    unfold Rels at r
    obtain ⟨v, ws, rfl, h1, h2⟩ := r
    exact .cons (RelT.dp' so (.inl h1) (h d List.mem_cons_self)) (rels_dp so h2 fun x hx => h x (List.mem_cons_of_mem _ hx))
/-- the best of data, by the fold -/
def bestF (mx : Bool) (x : D) (xs : List D) : D := if mx then maxF x xs else minF x xs
theorem best_of {mx : Bool} {m : Md} {xs : List D} {x : D} {a : Addr} {vs : List V} {Q : VK} (so : StOk X.K F R H st) (h4 : SqL X.K H a vs ∨ SqT X.K H a vs) (h5 : Rels X.K F R (x :: xs) vs) (hl : likeD (x :: xs) = true) (hm : okM m (bestF mx x xs)) (hf : Fin m X.K F R H st (bestF mx x xs) Q) : rBest mx X.K [.ref a] H Q := by
  have hl : ∀ y ∈ x :: xs, okD y = true ∧ depD y ≤ 60 ∧ (y ≠ .non ∧ isOwn y = false) ∧ ∀ z ∈ x :: xs, PySem.W.alike (toP y) (toP z) = true := fun y hy => by
    obtain ⟨k, k4⟩ := b2 (List.all_eq_true.mp hl y hy)
    obtain ⟨k, k3⟩ := b2 k
    obtain ⟨k1, k2⟩ := b2 k
    exact ⟨k1, of_decide_eq_true k2, ⟨fun e => by (rw [e] at k3; cases k3), by cases y <;> first | rfl | (cases k3; done) | exact ff k1⟩, fun z hz => List.all_eq_true.mp k4 z hz⟩
  refine ⟨a, vs, toP x, toPs xs, rfl, h4, rels_dp so h5 fun y hy => (hl y hy).1, ⟨fun p hp q hq => ?_, fun p hp e => ?_⟩, ?_, fun v hv => ?_⟩
  · obtain ⟨y, hy, rfl⟩ := mem_toPs (xs := x :: xs) hp
    obtain ⟨z, hz, rfl⟩ := mem_toPs (xs := x :: xs) hq
    exact (hl y hy).2.2.2 z hz
  · obtain ⟨y, hy, rfl⟩ := mem_toPs (xs := x :: xs) hp
    have := hl y hy
    cases y <;> first | exact absurd rfl this.2.2.1.1 | (cases e; done) | exact ff this.1
  · exact depthAll_le (xs := x :: xs) fun y hy => by
      have := hl y hy
      rw [toP_dep y this.1]
      exact this.2.1
  · have e2 : btD mx (toP x :: toPs xs) = fun i j => (fun p q : D => if mx then PySem.W.dataLt (toP q) (toP p) else PySem.W.dataLt (toP p) (toP q)) ((x :: xs).getD i .non) ((x :: xs).getD j .non) := by
      funext i j
      unfold btD
      rw [show toP x :: toPs xs = toPs (x :: xs) from rfl, toPs_getD, toPs_getD]
    have e1 := (PySem.W.argBest_fold (fun p q : D => if mx then PySem.W.dataLt (toP q) (toP p) else PySem.W.dataLt (toP p) (toP q)) D.non x xs xs.length (Nat.le_refl _))
    rw [e2, toPs_lenD] at hv
    obtain ⟨hle, e3⟩ := e1
    rw [List.take_length] at e3
    obtain ⟨d', q1, q2⟩ := Rels.getV h5 hv
    have e4 : d' = bestF mx x xs := by
      have : bestF mx x xs = xs.foldl (fun a y => if (fun p q : D => if mx then PySem.W.dataLt (toP q) (toP p) else PySem.W.dataLt (toP p) (toP q)) y a then y else a) x := by
        unfold bestF
        cases mx <;> rfl
      rw [this, ← e3, List.getD_eq_getElem?_getD, q1]
      rfl
    rw [← e4] at hm hf
    refine hf.val so (fun e => ?_) q2
    have := (hl d' (List.mem_of_getElem? q1)).2.2.1.2
    rw [e] at hm
    rw [show isOwn d' = true from hm] at this
    cases this
theorem bs_min1 : BiS X .min1 (fun vs H Q => rMin X.K vs H Q ∨ rBest false X.K vs H Q) := fun m F R H st ds vs z Q so r h hm hf => by
  obtain ⟨d, rfl⟩ := bi_args h rfl
  obtain ⟨v, rfl, r1⟩ := one_arg r
  have h : (match lstD st d with
    | some xs => (match asInts xs with
      | some ns => if ns.isEmpty then none else some (.int (minI ns))
      | none => minD1 xs)
    | none => (seqD st d).bind minD1) = some z := h
  cases h1 : lstD st d with
  | some xs =>
    rw [h1] at h
    obtain ⟨a, vs, rfl, h4, h5⟩ := lstD_r so r1 h1
    cases h3 : asInts xs with
    | some ns =>
      simp only [h3] at h
      left
      obtain ⟨rfl, rfl⟩ := ints_vals h5 h3
      cases ns with
      | nil => cases h
      | cons n ns =>
        cases h
        obtain ⟨k1, k2⟩ := minI_ok (ns := n :: ns) (by simp)
        refine ⟨a, n :: ns, rfl, h4, by simp, fun x hx hy => ?_⟩
        have : x = minI (n :: ns) := by have := hy _ k1; have := k2 x hx; omega
        rw [this]
        exact hf.int so hm
    | none =>
      simp only [h3] at h
      cases xs with
      | nil => cases h3
      | cons x xs =>
        obtain ⟨hl, rfl⟩ := ite_some h
        exact .inr (best_of (mx := false) so (.inl h4) h5 hl hm hf)
  | none =>
    rw [h1] at h
    obtain ⟨xs, h2, h⟩ := Option.bind_eq_some_iff.mp h
    obtain ⟨a, vs, rfl, h4, h5⟩ := seqD_r so r1 h2
    cases xs with
    | nil => cases h
    | cons x xs =>
      obtain ⟨hl, rfl⟩ := ite_some h
      exact .inr (best_of (mx := false) so h4 h5 hl hm hf)
theorem bs_max1 : BiS X .max1 (fun vs H Q => rMax X.K vs H Q ∨ rBest true X.K vs H Q) := fun m F R H st ds vs z Q so r h hm hf => by
  obtain ⟨d, rfl⟩ := bi_args h rfl
  obtain ⟨v, rfl, r1⟩ := one_arg r
  have h : (match lstD st d with
    | some xs => (match asInts xs with
      | some ns => if ns.isEmpty then none else some (.int (maxI ns))
      | none => maxD1 xs)
    | none => (seqD st d).bind maxD1) = some z := h
  cases h1 : lstD st d with
  | some xs =>
    rw [h1] at h
    obtain ⟨a, vs, rfl, h4, h5⟩ := lstD_r so r1 h1
    cases h3 : asInts xs with
    | some ns =>
      simp only [h3] at h
      left
      obtain ⟨rfl, rfl⟩ := ints_vals h5 h3
      cases ns with
      | nil => cases h
      | cons n ns =>
        cases h
        obtain ⟨k1, k2⟩ := maxI_ok (ns := n :: ns) (by simp)
        refine ⟨a, n :: ns, rfl, h4, by simp, fun x hx hy => ?_⟩
        have : x = maxI (n :: ns) := by have := hy _ k1; have := k2 x hx; omega
        rw [this]
        exact hf.int so hm
    | none =>
      simp only [h3] at h
      cases xs with
      | nil => cases h3
      | cons x xs =>
        obtain ⟨hl, rfl⟩ := ite_some h
        exact .inr (best_of (mx := true) so (.inl h4) h5 hl hm hf)
  | none =>
    rw [h1] at h
    obtain ⟨xs, h2, h⟩ := Option.bind_eq_some_iff.mp h
    obtain ⟨a, vs, rfl, h4, h5⟩ := seqD_r so r1 h2
    cases xs with
    | nil => cases h
    | cons x xs =>
      obtain ⟨hl, rfl⟩ := ite_some h
      exact .inr (best_of (mx := true) so h4 h5 hl hm hf)
theorem bs_two {b : Bi} (hb : b = .min2 ∨ b = .max2) {ds : List D} {z : D} (h : biD st b ds = some z) : ∃ i j, ds = [.int i, .int j] ∧ z = .int (if b = .min2 then (if j < i then j else i) else (if j > i then j else i)) := by
  rcases hb with rfl | rfl
  all_goals (
    rcases ds with _ | ⟨d, _ | ⟨e, _ | ⟨f, ds⟩⟩⟩ <;> first | (cases h; done) | skip
    · cases d <;> cases h
    · cases d <;> cases e <;> first | (cases h; done) | skip
      cases h
      exact ⟨_, _, rfl, rfl⟩
    · cases d <;> cases e <;> cases h)
theorem bs_min2 : BiS X .min2 fun xs H Q => ∃ i j, xs = [.int i, .int j] ∧ Q (.int (if j < i then j else i)) H := fun m F R H st ds vs z Q so r h hm hf => by
  obtain ⟨i, j, rfl, rfl⟩ := bs_two (.inl rfl) h
  obtain ⟨v, w, rfl, r1, r2⟩ := two_args r
  exact ⟨i, j, by rw [r1.int, r2.int], hf.int so hm⟩
theorem bs_max2 : BiS X .max2 fun xs H Q => ∃ i j, xs = [.int i, .int j] ∧ Q (.int (if j > i then j else i)) H := fun m F R H st ds vs z Q so r h hm hf => by
  obtain ⟨i, j, rfl, rfl⟩ := bs_two (.inr rfl) h
  obtain ⟨v, w, rfl, r1, r2⟩ := two_args r
  exact ⟨i, j, by rw [r1.int, r2.int], hf.int so hm⟩
theorem bs_all : BiS X .all (rAll X.K) := fun m F R H st ds vs z Q so r h hm hf => by
  obtain ⟨d, rfl⟩ := bi_args h rfl
  obtain ⟨v, rfl, r1⟩ := one_arg r
  clear r
  have r := r1
  clear r1
  obtain ⟨xs, h1, h2⟩ := Option.bind_eq_some_iff.mp h
  obtain ⟨bs, h3, rfl⟩ := Option.map_eq_some_iff.mp h2
  obtain ⟨a, vs, rfl, h4, h5⟩ := lstD_r so r h1
  cases bls_vals h5 h3
  exact ⟨a, bs, rfl, h4, hf.bl so hm⟩
theorem bs_any : BiS X .any (rAny X.K) := fun m F R H st ds vs z Q so r h hm hf => by
  obtain ⟨d, rfl⟩ := bi_args h rfl
  obtain ⟨v, rfl, r1⟩ := one_arg r
  clear r
  have r := r1
  clear r1
  obtain ⟨xs, h1, h2⟩ := Option.bind_eq_some_iff.mp h
  obtain ⟨bs, h3, rfl⟩ := Option.map_eq_some_iff.mp h2
  obtain ⟨a, vs, rfl, h4, h5⟩ := lstD_r so r h1
  cases bls_vals h5 h3
  exact ⟨a, bs, rfl, h4, hf.bl so hm⟩
/-! repr -/
theorem piled_toPs : ∀ {ds : List D}, (∀ d ∈ ds, (toP d).shown.length ≤ wD d) → piled (PyData.shownAll (toPs ds)) ≤ wDs ds
  | [], _ => by simp [toPs, PyData.shownAll, piled]
  | d :: ds, h => by
    have h1 := h d (List.mem_cons_self ..)
    have h2 := piled_toPs (ds := ds) fun x hx => h x (List.mem_cons_of_mem _ hx)
    simp only [toPs, PyData.shownAll, piled_cons, wDs]
    omega
theorem tupleText_le (ts : List Str) : (tupleText ts).length ≤ piled ts + 4 := by
  unfold tupleText
  rw [strLen_append, strLen_append]
  have e1 : ((("(" : String) : Str)).length = 1 := rfl
  have e3 : (Str.ofString (if ts.length == 1 then ",)" else ")")).length ≤ 2 := by split <;> decide
  rw [e1]
  by_cases h : ts = []
  · subst h
    have : (Str.join (Str.ofString ", ") ([] : List Str)).length = 0 := rfl
    omega
  · have := join_length_add ts h
    omega
theorem textFrom_up : ∀ (ts : List Str) (k : Nat) (acc : Str), (textFrom k acc ts).length ≤ acc.length + piled ts
  | [], k, acc => by show acc.length ≤ _; omega
  | t :: r, k, acc => by
    have ih := textFrom_up r (k + 1) (acc ++ (if k > 0 then ", " else "" : String) ++ t)
    have e : (acc ++ (if k > 0 then ", " else "" : String) ++ t).length ≤ acc.length + 2 + t.length := by
      rw [strLen_append, strLen_append]
      have : (Str.ofString (if k > 0 then ", " else "")).length ≤ 2 := by split <;> decide
      omega
    show (textFrom (k + 1) _ r).length ≤ _
    rw [piled_cons]
    omega
theorem listText_le (ts : List Str) : (listText ts).length ≤ piled ts + 4 := by
  unfold listText
  rw [strLen_append]
  have h := textFrom_up ts 0 (Str.ofString "[")
  have e1 : (Str.ofString "[").length = 1 := rfl
  have e2 : (Str.ofString "]").length = 1 := rfl
  omega
mutual
theorem shown_le : ∀ (d : D), showD d = true → (toP d).shown.length ≤ wD d
  | .non, _ => by simp only [toP, PyData.shown, wD]; decide
  | .bl b, _ => by simp only [toP, PyData.shown, wD]; cases b <;> decide
  | .int i, h => by
    simp only [toP, PyData.shown, wD]
    have h1 : (Str.ofString (toString i)).length = (toString i).length := PySem.ofString_length _
    have h2 := int_text_length_le (a := i) (k := i.natAbs.log2 + 1) (by omega) (by omega)
    omega
  | .str x, _ => by simp only [toP, PyData.shown, wD]; exact Nat.le_refl _
  | .tup xs, h => by
    unfold showD at h
    simp only [toP, PyData.shown, wD]
    have := tupleText_le (PyData.shownAll (toPs xs))
    have := piled_toPs (ds := xs) (shown_les xs h)
    omega
  | .ctup xs, h => by
    unfold showD at h
    simp only [toP, PyData.shown, wD]
    have := tupleText_le (PyData.shownAll (toPs xs))
    have := piled_toPs (ds := xs) (shown_les xs h)
    omega
  | .lst xs, h => by
    unfold showD at h
    simp only [toP, PyData.shown, wD]
    have := listText_le (PyData.shownAll (toPs xs))
    have := piled_toPs (ds := xs) (shown_les xs h)
    omega
theorem shown_les : ∀ (ds : List D), showDs ds = true → ∀ d ∈ ds, (toP d).shown.length ≤ wD d
  | [], _, d, h => by cases h
  | x :: xs, k, d, h => by
    unfold showDs at k
    obtain ⟨k1, k2⟩ := b2 k
    rcases List.mem_cons.mp h with e | h
    · rw [e]; exact shown_le x k1
    · exact shown_les xs k2 d h
end
mutual
theorem show_able : ∀ (d : D), showD d = true → (toP d).showable = true ∧ okD d = true
  | .non, _ => by simp [toP, PyData.showable, okD]
  | .bl b, _ => by simp [toP, PyData.showable, okD]
  | .int i, h => by
    unfold showD at h
    simp only [toP, PyData.showable, okD]
    exact ⟨h, trivial⟩
  | .str x, h => by
    unfold showD at h
    simp only [toP, PyData.showable, okD]
    exact ⟨trivial, h⟩
  | .tup xs, h => by
    unfold showD at h
    simpa [toP, PyData.showable, okD] using show_ables xs h
  | .ctup xs, h => by
    unfold showD at h
    simpa [toP, PyData.showable, okD] using show_ables xs h
  | .lst xs, h => by
    unfold showD at h
    simpa [toP, PyData.showable, okD] using show_ables xs h
theorem show_ables : ∀ (ds : List D), showDs ds = true → PyData.showableAll (toPs ds) = true ∧ okDs ds = true
  | [], _ => by simp [toPs, PyData.showableAll, okDs]
  | x :: xs, h => by
    unfold showDs at h
    obtain ⟨h1, h2⟩ := b2 h
    obtain ⟨a1, a2⟩ := show_able x h1
    obtain ⟨a3, a4⟩ := show_ables xs h2
    simp [toPs, PyData.showableAll, okDs, a1, a2, a3, a4]
end
def rRepr (K : PySem.W.Frag) : List V → Hp → VK → Prop := fun xs H Q => ∃ x d, xs = [x] ∧ Dp K H x d ∧ d.showable = true ∧ d.canLay0 = true ∧ d.depth ≤ 60 ∧ d.shown.length ≤ sizeLine ∧ Q (.str d.shown) H
theorem call_repr (hg : X.A.guards = some []) (hu : X.A.units + 200 < cLine) : CallR X (.builtin "repr") (rRepr X.K) := by
  intro pins s σ H xs us Q I r ⟨x, d, e, hd, h1, h2, h3, h4, q⟩
  subst e
  obtain ⟨u, rfl, rx⟩ := vals1 r
  obtain ⟨as, rd⟩ := Dp.reads I d x u hd rx
  cases hd with
  | non => cases rx; exact PySem.P.repr_of_none ⟨.str _, H, I.tok _, ⟨_, rfl⟩, q⟩
  | bl b => cases rx; exact PySem.P.repr_of_bool ⟨.str _, H, I.tok _, ⟨_, rfl⟩, q⟩
  | int i => obtain ⟨t, rfl⟩ := rx; exact PySem.P.repr_of_int (by simpa [PyData.showable] using h1) ⟨.str _, H, I.tok _, ⟨_, rfl⟩, q⟩
  | str x => obtain ⟨t, rfl⟩ := rx; exact PySem.P.repr_of_str ⟨.str _, H, I.tok _, ⟨_, rfl⟩, q⟩ h4
  | lst hs ha =>
    cases rx
    exact repr_of_reads' rd h1 (PyData.noDict_hsm (PyData.hasDict_of_canLay _ h2)) hg (by omega) (fun _ _ e => e) (fun h' u tk hk => ⟨.str _, H, I.kept hk, ⟨_, rfl⟩, q⟩) h4
  | tup hs ha =>
    cases rx
    exact repr_of_reads' rd h1 (PyData.noDict_hsm (PyData.hasDict_of_canLay _ h2)) hg (by omega) (fun _ _ e => e) (fun h' u tk hk => ⟨.str _, H, I.kept hk, ⟨_, rfl⟩, q⟩) h4
theorem bs_repr : BiS X .repr (rRepr X.K) := fun m F R H st ds vs z Q so r h hm hf => by
  obtain ⟨d, rfl⟩ := bi_args h rfl
  obtain ⟨v, rfl, r1⟩ := one_arg r
  obtain ⟨h1, rfl⟩ := ite_some h
  obtain ⟨h1, h3⟩ := b2 h1
  obtain ⟨h1, h2⟩ := b2 h1
  obtain ⟨k1, k2⟩ := show_able d h1
  have h4 := shown_le d h1
  have h5 := of_decide_eq_true h2
  have h6 := of_decide_eq_true h3
  exact ⟨v, toP d, rfl, r1.dp' so k2, k1, toP_lay k2, by rw [toP_dep d k2]; omega, by rw [sizeLine_eq]; omega, hf.str so hm⟩
/-! sorted -/
theorem bs_srtI {K : PySem.W.Frag} {m : Md} {v : V} {d : D} {xs : List D} {ns : List Int} {Q : VK} (so : StOk K F R H st) (r : RelT K F R H d v) (h1 : lstD st d = some xs) (h2 : asInts xs = some ns) (hf : Fin m K F R H st (.lst ((sortBy id ns).map D.int)) Q) : rSortedI K [v] H Q := by
  obtain ⟨a, vs, rfl, h4, h5⟩ := lstD_r so r h1
  obtain ⟨rfl, rfl⟩ := ints_vals h5 h2
  refine ⟨a, ns, rfl, h4, fun ns' p hp hw hn => ?_⟩
  have e : ns' = sortBy id ns := sort_one id (hp.trans (sortBy_perm id ns).symm) (by simpa using hw) (sortBy_pw id ns) fun a _ b _ h => h
  rw [e]
  exact hf.lst so (rels_ints _) p hn
end
end Nb
end
section
set_option Elab.async false
set_option linter.all false
set_option maxRecDepth 100000
set_option maxHeartbeats 4000000
/-! NbSi: sets of ints, sorted (printed by mksi.py) -/
namespace Nb
open PySem PySem.Spec PyProof.Rows L2
section
variable {P : Program} {w : World} {A : Around} {E : Value → Shared → Prop} {s : Shared}
set_option maxRecDepth 100000 in
set_option maxHeartbeats 3200000 in
theorem set_of_ints {l : Addr} {items : Array Value} (ns : List Int) {Q : Value → Shared → Prop} (hh : A.handled = none) (hl : s.heap.IsList l items) (hit : IntsAre items.toList ns) (hb : ns.length + 1 < scanBound)
    (h : ∀ (h' : Heap) (tk c : Nat), SetR w h' s.heap.objs.size (fun j => decide (j ∈ ns)) c → c ≤ ns.length → (∀ b o, s.heap.get? b = some o → h'.get? b = some o) → Q (.ref s.heap.objs.size) { s with heap := h', toks := tk }) :
    wpAny (model P w) A (call (.type "set") [.ref l]) Q E s := by
  have hisz : items.size = ns.length := by
    have q := IntsAre.length hit
    rw [Array.length_toList] at q
    exact q
  obtain ⟨c, tl, hmro⟩ := F.called_set.mro
  have hmade := F.called_set.made
  have hsub := F.called_set.sub
  refine wpAny_call (codeAny_of_tree ?_)
  show wpAny _ _ (callAny (.type "set") _) _ _ _
  refine wpAny_pure ⟨Code.quiet_builtin _ (by decide +kernel), codeAny_builtin F.entry_type_call ?_⟩
  rw [Around.under_plain (weight_type_call_type "set" [.ref l] []) rfl]
  have h1 := F.called_set.notType
  have h2 := F.called_set.canCreate
  have hct := F.typeCall_set_1 (.ref l)
  repeat (any_goals (first | assumption | wp_step))

  refine codeAny_mono (code_set_led1 (.ref l) (E := E) (Q₁ := fun obj s₁ => obj = .ref s.heap.objs.size ∧ s₁ = { s with heap := s.heap.push { cls := .type "set", dict := none, data := .set #[] 0 (.fresh 0 0 (!w.params.followText "set-order")) } }) ⟨rfl, rfl⟩) fun r s₁ hr => ?_
  cases r with
  | error e => exact hr
  | ok fl =>
    cases fl with
    | ret obj =>
      obtain ⟨rfl, rfl⟩ := hr
      have hS : (s.heap.push { cls := .type "set", dict := none, data := .set #[] 0 (.fresh 0 0 (!w.params.followText "set-order")) }).get? s.heap.objs.size = some { cls := .type "set", dict := none, data := .set #[] 0 (.fresh 0 0 (!w.params.followText "set-order")) } := Heap.get?_push_size _ rfl
      have hT : Shared.TypeIs { s with heap := s.heap.push { cls := .type "set", dict := none, data := .set #[] 0 (.fresh 0 0 (!w.params.followText "set-order")) } } (.ref s.heap.objs.size) "set" := ⟨_, hS, rfl⟩
      have hli := F.called_set.init.lookup
      have hbi := F.called_set.init.bind (.ref s.heap.objs.size)
      repeat (any_goals (first | assumption | wp_step))

      refine codeAny_mono (codeAny_call_builtin (R := wants (fun r s₂ => r = .none ∧ ∃ h' tk c, s₂ = { s with heap := h', toks := tk } ∧ SetR w h' s.heap.objs.size (fun j => decide (j ∈ ns)) c ∧ c ≤ ns.length ∧
          (∀ b o, s.heap.get? b = some o → h'.get? b = some o)) E) F.called_set.init.plain F.entry_set_init (check_set_init_1 hT ?_)) fun r₂ s₂ hr₂ => ?_
      · obtain ⟨ol, hol, hcl, nl, hdl⟩ := hl
        obtain ⟨ocls, odict, odata, oslots⟩ := ol
        simp only at hcl hdl
        subst hcl; subst hdl
        have hol' : (s.heap.push { cls := .type "set", dict := none, data := .set #[] 0 (.fresh 0 0 (!w.params.followText "set-order")) }).get? l = some { cls := .type "list", dict := odict, data := .seq items nl, slots := oslots } := Heap.get?_push_of_some _ hol
        have hsls := F.sub_list_set
        have hslf := F.sub_list_frozenset
        have hne : (Value.type "list" == Value.type "dict") = false := by decide
        have hl1 : (s.heap.push { cls := .type "set", dict := none, data := .set #[] 0 (.fresh 0 0 (!w.params.followText "set-order")) }).IsList l items := ⟨_, hol', rfl, nl, rfl⟩
        unfold Builtin.«set.__init__» noKeywords Builtin.Frozenset.updateFrom
        generalize hPI : pyIter = PI
        wp_walk
        subst hPI

        refine wpAny_pyIter_list hl1 ?_
        refine wpAny_bind (wpAny_runValue ?_)
        have hlS : l < s.heap.objs.size := Heap.lt_size hol
        have hh3 : A.in1.in1.in1.handled = none := by simp [hh]
        have hz1 : (s.heap.push { cls := .type "set", dict := none, data := .set #[] 0 (.fresh 0 0 (!w.params.followText "set-order")) }).objs.size = s.heap.objs.size + 1 := Heap.size_push ..
        have hneI : l ≠ (s.heap.push { cls := .type "set", dict := none, data := .set #[] 0 (.fresh 0 0 (!w.params.followText "set-order")) }).objs.size := by
          rw [Heap.size_push]; exact Nat.ne_of_lt (Nat.lt_succ_of_lt hlS)
        have hSf : s.heap.objs.size ∉ [(s.heap.push { cls := .type "set", dict := none, data := .set #[] 0 (.fresh 0 0 (!w.params.followText "set-order")) }).objs.size, l] := by
          rw [Heap.size_push]; simp only [List.mem_cons, List.mem_singleton, List.not_mem_nil, or_false, not_or]
          exact ⟨Nat.ne_of_lt (Nat.lt_succ_self _), Nat.ne_of_gt hlS⟩
        have hval : ∀ (i : Nat) (v : Value), items[i]? = some v → ∃ k t, ns[i]? = some k ∧ v = .int k t := fun i v hv => by
          have hi : i < ns.length := by rw [← hisz]; exact (Array.getElem?_eq_some_iff.mp hv).1
          obtain ⟨t, e⟩ := PyProof.Rows.IntsAre.int_at hit i v (by rw [Array.getElem?_toList]; exact hv)
          refine ⟨ns[i], t, List.getElem?_eq_getElem hi, ?_⟩
          rw [e, List.getD_eq_getElem?_getD, List.getElem?_eq_getElem hi] <;> rfl
        refine set_update_ints ((Walks.list hh3 _ l hneI items).toS) s.heap.objs.size
          hSf ns hisz hb hval (items.size - 0) 0 _ (by omega) (Nat.zero_le _)
          ⟨⟨_, Heap.get?_push_size _ rfl, rfl, rfl⟩, (hl1.push _)⟩ ?hS0 ?hR
        case hS0 =>
          have hget : ((s.heap.push { cls := .type "set", dict := none, data := .set #[] 0 (.fresh 0 0 (!w.params.followText "set-order")) }).push { cls := .type "list_iterator", data := .fields #[.ref l, .int 0 0] }).get? s.heap.objs.size
              = some { cls := .type "set", dict := none, data := .set #[] 0 (.fresh 0 0 (!w.params.followText "set-order")) } := Heap.get?_push_of_some _ hS
          exact ⟨0, Nat.le_refl 0, setR_new_at hget⟩
        case hR =>
          intro s' c' hm hc' hS'
          obtain ⟨h', g2, d', tk', os'⟩ := s'
          have eg : g2 = s.gens := hm.gens
          have ed : d' = s.drawn := hm.drawn
          have eo : os' = s.os := hm.os
          subst eg; subst ed; subst eo
          show wpAny _ _ _ _ _ _
          refine wpAny_pure ?_
          show wpAny _ _ (ret Value.none) _ _ _
          rw [hisz] at hc'
          refine wpAny_pure ⟨rfl, h', tk', c', rfl, hS', hc', fun b o e => ?_⟩
          have hb0 : b < s.heap.objs.size := Heap.lt_size e
          have hb1 : b ≠ s.heap.objs.size := Nat.ne_of_lt hb0
          have hb2 : b ≠ (s.heap.push { cls := .type "set", dict := none, data := .set #[] 0 (.fresh 0 0 (!w.params.followText "set-order")) }).objs.size := by
            rw [Heap.size_push]; exact Nat.ne_of_lt (Nat.lt_succ_of_lt hb0)
          exact hm.heap b o (by simp only [List.mem_cons, List.mem_singleton, List.not_mem_nil, or_false, not_or]; exact ⟨hb1, hb2⟩) (Heap.get?_push_of_some _ (Heap.get?_push_of_some _ e))

      · cases r₂ with
        | error e => exact hr₂
        | ok fl₂ =>
          cases fl₂ with
          | ret r =>
            obtain ⟨rfl, h', tk, c', rfl, hS', hc', hk'⟩ := hr₂
            repeat (any_goals (first | assumption | wp_step))
            exact h _ _ _ hS' hc' hk'
          | _ => exact hr₂.elim
    | _ => exact hr.elim
end
section
variable {P : Program} {w : World} {A : Around} {E : Value → Shared → Prop} {s : Shared} {a : Addr}
theorem sorted_setI {S : Int → Bool} {n : Nat} {Q : Value → Shared → Prop} (R : SetR w s.heap a S n) (hh : A.handled = none)
    (hQ : ∀ s' p (out : Array Value) (c : Nat) (ns : List Int), (∀ b o, s.heap.get? b = some o → s'.heap.get? b = some o) → s'.gens = s.gens → s'.os = s.os → s.heap.objs.size ≤ p →
      s'.heap.get? p = some (seqObj "list" out c) → IntsAre out.toList ns → ns.Pairwise (· < ·) → (∀ k, k ∈ ns ↔ S k = true) → ns.length = n → Q (.ref p) s') :
    wpAny (model P w) A (call (.builtin "sorted") [.ref a]) Q E s := by
  obtain ⟨o, es, ep, t, ho, hex, hd, g, nd, hm, hb, hf, hn, hr, hl⟩ := R
  refine Calls.call_function_entry kind_sorted plain_sorted entry_sorted (args_sorted1 _) ?_
  unfold Builtin.«sorted»
  refine wpAny_bind (m := checkCount "sorted" 1 1 _) (wpAny_pure ?_)
  refine wpAny_bind (collect_set (A := A.in1) hh ⟨o, ho, hex.1, hd⟩ hf hb hr hl fun s1 vs k1 hz g1 o1 pm => ?_)
  have hvl : vs.length = n := by rw [pm.length_eq, List.length_map, Array.length_toList]; exact hn
  have hn4 : n < 4096 := by
    have q := hb
    unfold scanBound at q
    omega
  have hI : IntsAre vs (vs.map Builtin.Re.reRawOf) := L2.ints_of vs fun v hv => by
    obtain ⟨e, he, q⟩ := List.mem_map.mp (pm.mem_iff.mp hv)
    obtain ⟨k, tk, h1, _⟩ := g e he
    exact ⟨k, tk, by rw [← q]; exact h1⟩
  have pk : (vs.map Builtin.Re.reRawOf).Perm (es.toList.map keyOf) := by
    have q := pm.map Builtin.Re.reRawOf
    rw [List.map_map] at q
    exact q
  refine wpAny_bind (wpAny_newList ?_ (by rw [hvl, sizeLine_eq]; omega))
  have hoL : (s1.heap.push (seqObj "list" vs.toArray 0)).get? s1.heap.objs.size = some (seqObj "list" vs.toArray 0) := Heap.get?_push_size _ rfl
  refine wpAny_bind (wpAny_holding (wpAny_call_entry slot_list_sort ⟨_, hoL, rfl⟩ entry_list_sort (SrtO.list_sort_ord SrtO.swo_int hoL (by rw [hvl, sizeLine_eq]; omega) (fun h2 => SrtO.ints_sortable hI h2) fun outl b1 b2 => ⟨_, rfl, ?_⟩) (args_list_sort _)))
  obtain ⟨a1, a2, a3⟩ := SrtO.ints_out hI b1 b2
  obtain ⟨out, hout⟩ : ∃ out : Array Value, out = outl.toArray := ⟨_, rfl⟩
  have a1 : IntsAre out.toList (outl.map SrtO.iv) := by rw [hout]; exact a1
  rw [← hout]
  obtain ⟨ns', hns⟩ : ∃ ns', ns' = outl.map SrtO.iv := ⟨_, rfl⟩
  rw [← hns] at a1 a2 a3
  obtain ⟨c, hc⟩ := sortedHeap_at (vs := vs) (out := out) hoL
  have pn : ns'.Perm (es.toList.map keyOf) := a2.trans pk
  refine wpAny_pure ⟨_, rfl, hQ _ s1.heap.objs.size out c ns' (fun b u e => ?_) g1 o1 hz hc a1 (lt_of_le_nodup ns' a3 (pn.nodup_iff.mpr nd)) (fun k => by rw [pn.mem_iff, ← hm k]) ?_⟩
  · have q := k1 b u e
    have hlt := Heap.lt_size q
    show (sortedHeap (s1.heap.push (seqObj "list" vs.toArray 0)) s1.heap.objs.size vs out).get? b = some u
    rw [sortedHeap_old (Nat.ne_of_lt hlt) (by rw [size_push']; exact Nat.lt_succ_of_lt hlt)]
    exact Heap.get?_push_of_some _ q
  · rw [pn.length_eq, List.length_map, Array.length_toList]; exact hn
end
section
variable {X : Cx}
/-- set(xs), xs a list of ints -/
def rSetOfI (K : PySem.W.Frag) (w : World) : List V → Hp → VK → Prop := fun vs H Q => ∃ (l : Addr) (ns : List Int), vs = [V.ref l] ∧ SqL K H l (ns.map V.int) ∧ ns.length + 1 < scanBound ∧ ∀ (a : Addr) (c : Nat), H a = none → Q (.ref a) (upd H a (SetO w a (fun j => decide (j ∈ ns)) c))
theorem cr_setOfI (hc : X.calm = true) : CallR X (.type "set") (rSetOfI X.K X.w) := by
  intro pins s σ H vs us Q I r h
  obtain ⟨l, ns, rfl, hs, hb, q⟩ := h
  rw [Vals.ref1 r]
  obtain ⟨its, rv, pl, hz⟩ := I.list hs
  refine set_of_ints (P := X.prog) (w := X.w) ns (I.ok.hd hc) pl.isList (by simpa using rv.ints) hb fun h' tk c R _ k => ?_
  exact ⟨.ref s.heap.objs.size, upd H s.heap.objs.size (SetO X.w s.heap.objs.size (fun j => decide (j ∈ ns)) c), I.laid (t' := tk) k (Nat.le_refl _) (setO_new R), rfl, q _ c (I.hok.fresh (Nat.le_refl _))⟩
/-- sorted(set of ints) -/
def rSortSetI (w : World) : List V → Hp → VK → Prop := fun vs H Q => ∃ (a : Addr) (S : Int → Bool) (n : Nat), vs = [V.ref a] ∧ H a = some (SetO w a S n) ∧
  ∀ (ns : List Int) (p : Addr), ns.Pairwise (· < ·) → (∀ k : Int, k ∈ ns ↔ S k = true) → H p = none → Q (.ref p) (upd H p (.lst (ns.map V.int)))
theorem cr_sortSetI (hc : X.calm = true) : CallR X (.builtin "sorted") (rSortSetI X.w) := by
  intro pins s σ H vs us Q I r h
  obtain ⟨a, S, n, rfl, ha, q⟩ := h
  have R := setO_get I ha
  rw [Vals.ref1 r]
  refine sorted_setI R (I.ok.hd hc) fun s' p out c ns k g o hp hg hi hs hm hl => ?_
  have hn4 : n < 4096 := by
    obtain ⟨_, es, _, _, _, _, _, _, _, _, h1, _, h2, _⟩ := R
    unfold scanBound at h1
    omega
  have hlen : (ns.map V.int).length ≤ sizeLine := by rw [List.length_map, hl, sizeLine_eq]; omega
  have hn : H p = none := I.hok.fresh hp
  have J : Inv X pins σ (upd H p (.lst (ns.map V.int))) { s with heap := s'.heap, gens := s'.gens, drawn := s'.drawn, toks := s'.toks } :=
    I.call (ch := []) (Un.laid k hp hn) (I.hok.laid k hp ⟨hlen, out.toList, c, vals_of_ints hi, hg⟩) (by rw [g]; exact I.bare) (fun _ z => nomatch z)
  have e : s' = { s with heap := s'.heap, gens := s'.gens, drawn := s'.drawn, toks := s'.toks } := by
    cases s'
    cases s
    cases o
    rfl
  rw [e]
  exact ⟨.ref p, _, J, rfl, q ns p hs hm hn⟩
end
end Nb
end
section
set_option Elab.async false
set_option linter.all false
set_option maxRecDepth 100000
set_option maxHeartbeats 4000000
/-! NbK: sorted, sets that are sorted, the calls of built-ins -/
namespace Nb
open PySem PySem.Spec PyProof.Rows L2
section
variable {X : Cx} {K : PySem.W.Frag} {F : Hp} {R : List Addr} {H : Hp} {st : Sto}
def rSrtU (K : PySem.W.Frag) : List V → Hp → VK → Prop := fun vs H Q => ∃ d B, 1 ≤ d ∧ rSortU K d B vs H Q
theorem cr_srtU : CallR X (.builtin "sorted") (rSrtU X.K) := by
  intro pins s σ H vs us Q I r ⟨d, B, hd, h⟩
  exact cr_sortT hd pins s σ H vs us Q I r h
theorem CallR.or {f : Value} {r r' : List V → Hp → VK → Prop} (h : CallR X f r) (h' : CallR X f r') : CallR X f fun xs H Q => r xs H Q ∨ r' xs H Q := by
  intro pins s σ H xs us Q I rx q
  rcases q with q | q
  · exact h pins s σ H xs us Q I rx q
  · exact h' pins s σ H xs us Q I rx q
/-! bounds -/
theorem fold_ge : ∀ (l : List Int) (a : Int), a ≤ l.foldl max a ∧ ∀ x ∈ l, x ≤ l.foldl max a
  | [], a => ⟨Int.le_refl _, fun _ h => nomatch h⟩
  | y :: l, a => by
    obtain ⟨h1, h2⟩ := fold_ge l (max a y)
    rw [List.foldl_cons]
    refine ⟨by omega, fun x hx => ?_⟩
    rcases List.mem_cons.mp hx with rfl | hx
    · omega
    · exact h2 x hx
theorem asInts_all : ∀ {ds : List D}, allInts ds = true → ∃ ns : List Int, asInts ds = some ns ∧ ns.length = ds.length
  | [], _ => ⟨[], rfl, rfl⟩
  | d :: ds, h => by
    cases d <;> first | exact ff h | skip
    rename_i i
    obtain ⟨ns, h1, h2⟩ := asInts_all (ds := ds) h
    exact ⟨i :: ns, by unfold asInts; rw [h1]; rfl, by simp [h2]⟩
theorem asInts_map : ∀ {ds : List D} {ns : List Int}, asInts ds = some ns → ds = ns.map D.int
  | [], ns, e => by cases e; rfl
  | d :: ds, ns, e => by
    cases d <;> first | (cases e; done) | skip
    unfold asInts at e
    obtain ⟨ms, e1, rfl⟩ := Option.map_eq_some_iff.mp e
    rw [asInts_map e1]; rfl
theorem asInts_of : ∀ ns : List Int, asInts (ns.map D.int) = some ns
  | [] => rfl
  | n :: ns => by
    show asInts (D.int n :: ns.map D.int) = _
    unfold asInts
    rw [asInts_of ns]; rfl
/-- one of the tuples that are sorted -/
structure TOk (B : Int) (n : Nat) (d : D) : Prop where
  t : d = .tup ((intsD d).map D.int)
  l : (intsD d).length = n
  b : TS.Bd B (intsD d)
theorem tups_ok {xs : List D} (h : tupsOk xs = true) : ∃ n, 1 ≤ n ∧ ∀ d ∈ xs, TOk (boundD xs) n d := by
  unfold tupsOk at h
  cases xs with
  | nil => exact ff h
  | cons x xs =>
    simp only at h
    obtain ⟨h1, h2⟩ := b2 h
    have h1 := of_decide_eq_true h1
    rw [List.all_eq_true] at h2
    refine ⟨(intsD x).length, h1, fun d hd => ?_⟩
    have h3 := h2 d hd
    cases d <;> first | exact ff h3 | skip
    rename_i ys
    simp only at h3
    obtain ⟨h4, h6⟩ := b2 h3
    obtain ⟨h4, h5⟩ := b2 h4
    obtain ⟨ns, e1, e2⟩ := asInts_all h4
    have e3 : intsD (.tup ys) = ns := by unfold intsD tupD; simp [e1]
    refine ⟨by rw [e3, asInts_map e1], by rw [e3, e2]; exact of_decide_eq_true h5, fun m hm => ⟨?_, ?_⟩⟩
    · rw [e1] at h6
      rw [Option.getD_some, List.all_eq_true] at h6
      rw [e3] at hm
      exact of_decide_eq_true (h6 m hm)
    · have := (fold_ge ((x :: xs).map intsD).flatten 1).2 m (List.mem_flatten.mpr ⟨intsD (.tup ys), List.mem_map.mpr ⟨.tup ys, hd, rfl⟩, hm⟩)
      show m < (((x :: xs).map intsD).flatten.foldl max 1) + 1
      omega
theorem code_inj {B : Int} : ∀ {a b : List Int}, a.length = b.length → TS.Bd B a → TS.Bd B b → TS.code B a = TS.code B b → a = b
  | [], [], _, _, _, _ => rfl
  | [], _ :: _, h, _, _, _ => by simp at h
  | _ :: _, [], h, _, _, _ => by simp at h
  | x :: a, y :: b, h, ha, hb, e => by
    have hl : a.length = b.length := by simpa using h
    have e1 : x = y := by
      rcases Int.lt_trichotomy x y with h1 | h1 | h1
      · have := TS.code_lt hl ha.tail hb.tail h1; omega
      · exact h1
      · have := TS.code_lt hl.symm hb.tail ha.tail h1; omega
    subst e1
    have e2 : TS.code B a = TS.code B b := by
      have a1 : ¬ TS.code B a < TS.code B b := fun h => by have := (TS.code_same (d := x) (B := B) hl).mpr h; omega
      have a2 : ¬ TS.code B b < TS.code B a := fun h => by have := (TS.code_same (d := x) (B := B) hl.symm).mpr h; omega
      omega
    rw [code_inj hl ha.tail hb.tail e2]
theorem TOk.inj {B : Int} {n : Nat} {d e : D} (t : TOk B n d) (u : TOk B n e) (h : TS.code B (intsD d) = TS.code B (intsD e)) : d = e := by
  rw [t.t, u.t, code_inj (t.l.trans u.l.symm) t.b u.b h]
theorem TOk.tupI {B : Int} {n : Nat} {d : D} {v : V} (so : Same F H) (t : TOk B n d) (r : Rel K F R d v) : TupI K H v (intsD d) := by
  have h := t.t
  generalize intsD d = ns at h ⊢
  subst h
  unfold Rel at r
  obtain ⟨a, vs, rfl, h3, h4⟩ := r
  obtain ⟨rfl, _⟩ := ints_vals h4 (asInts_of ns)
  exact ⟨a, rfl, .inl (.inl (so _ _ h3))⟩
theorem Rels.pw {P : V → V → Prop} {P' : D → D → Prop} : ∀ {ds : List D} {vs : List V}, Rels K F R ds vs → vs.Pairwise P → (∀ d ∈ ds, ∀ e ∈ ds, ∀ v w, Rel K F R d v → Rel K F R e w → P v w → P' d e) → ds.Pairwise P'
  | [], _, _, _, _ => List.Pairwise.nil
  | d :: ds, _, r, p, h => by
    unfold Rels at r
    obtain ⟨v, ws, rfl, h1, h2⟩ := r
    obtain ⟨p1, p2⟩ := List.pairwise_cons.mp p
    refine List.pairwise_cons.mpr ⟨fun e he => ?_, Rels.pw h2 p2 fun x hx y hy => h x (List.mem_cons_of_mem _ hx) y (List.mem_cons_of_mem _ hy)⟩
    obtain ⟨i, hi⟩ := List.getElem?_of_mem he
    obtain ⟨w, q1, q2⟩ := h2.get hi
    exact h d (List.mem_cons_self ..) e (List.mem_cons_of_mem _ he) v w h1 q2 (p1 w (List.mem_of_getElem? q1))
theorem Rels.mem {ds : List D} {vs : List V} {v : V} (r : Rels K F R ds vs) (h : v ∈ vs) : ∃ d ∈ ds, Rel K F R d v := by
  obtain ⟨i, hi⟩ := List.getElem?_of_mem h
  obtain ⟨d, q1, q2⟩ := r.getV hi
  exact ⟨d, List.mem_of_getElem? q1, q2⟩
theorem bs_srtT {m : Md} {v : V} {d : D} {xs : List D} {Q : VK} (so : StOk K F R H st) (r : RelT K F R H d v) (h1 : lstD st d = some xs) (h2 : tupsOk xs = true) (h3 : xs.length < 64)
    (hf : Fin m K F R H st (.lst (sortBy (fun d => TS.code (boundD xs) (intsD d)) xs)) Q) : rSrtU K [v] H Q := by
  obtain ⟨a, vs, rfl, h4, h5⟩ := lstD_r so r h1
  obtain ⟨n, hn, ht⟩ := tups_ok h2
  refine ⟨n, boundD xs, hn, a, vs, rfl, h4, by rw [← h5.len]; exact h3, fun x hx => ?_, fun ys p hp hw hq => ?_⟩
  · obtain ⟨d', hd, hr⟩ := h5.mem hx
    exact ⟨_, (ht d' hd).tupI so.same hr, (ht d' hd).l, (ht d' hd).b⟩
  · obtain ⟨es, p1, p2⟩ := h5.perm hp.symm
    have e : es = sortBy (fun d => TS.code (boundD xs) (intsD d)) xs := by
      refine sort_one _ (p1.symm.trans (sortBy_perm _ xs).symm) (p2.pw hw fun d hd e he v w r1 r2 h => ?_) (sortBy_pw _ xs) fun a ha b hb h => ?_
      · exact h _ _ ((ht d (p1.mem_iff.mpr hd)).tupI so.same r1) ((ht e (p1.mem_iff.mpr he)).tupI so.same r2)
      · exact (ht a (p1.mem_iff.mpr ha)).inj (ht b (p1.mem_iff.mpr hb)) h
    rw [← e] at hf
    exact hf.lst so p2 p hq
theorem bs_srt {X : Cx} : BiS X .srt fun xs H Q => rSortedI X.K xs H Q ∨ rSrtU X.K xs H Q := fun m F R H st ds vs z Q so r h hm hf => by
  obtain ⟨d, rfl⟩ := bi_args h rfl
  obtain ⟨v, rfl, r1⟩ := one_arg r
  obtain ⟨xs, h1, h2⟩ := Option.bind_eq_some_iff.mp h
  obtain ⟨ys, h3, rfl⟩ := Option.map_eq_some_iff.mp h2
  unfold sortD at h3
  cases e : asInts xs with
  | some ns =>
    rw [e] at h3
    cases h3
    exact .inl (bs_srtI so r1 h1 e hf)
  | none =>
    rw [e] at h3
    obtain ⟨h4, rfl⟩ := ite_some h3
    obtain ⟨h4, h5⟩ := b2 h4
    exact .inr (bs_srtT so r1 h1 h4 (of_decide_eq_true h5) hf)

/-! ### sorted(set(..)) of tuples -/
theorem eqv_ints : ∀ {a b : List Int}, eqvs (a.map D.int) (b.map D.int) = decide (a = b)
  | [], [] => by simp [eqvs]
  | [], _ :: _ => by simp [eqvs]
  | _ :: _, [] => by simp [eqvs]
  | x :: a, y :: b => by
    rw [List.map_cons, List.map_cons]
    unfold eqvs
    rw [eqv_ints]
    show ((x == y) && decide (a = b)) = decide (x :: a = y :: b)
    by_cases h1 : x = y
    · by_cases h2 : a = b
      · subst h1 h2; simp
      · simp [h1, h2]
    · simp [h1]
theorem TOk.eqv {B : Int} {n : Nat} {d e : D} (t : TOk B n d) (u : TOk B n e) : Nb.eqv d e = true ↔ d = e := by
  have h1 := t.t
  have h2 := u.t
  generalize intsD d = a at h1
  generalize intsD e = b at h2
  subst h1 h2
  unfold Nb.eqv
  rw [eqv_ints]
  refine ⟨fun h => by rw [of_decide_eq_true h], fun h => ?_⟩
  injection h with e
  exact decide_eq_true ((List.map_inj_right (fun a b h => by injection h)).mp e)
theorem dedup_sub : ∀ {xs : List D} {d : D}, d ∈ dedupD xs → d ∈ xs
  | x :: xs, d, h => by
    unfold dedupD at h
    split at h
    · exact List.mem_cons_of_mem _ (dedup_sub h)
    · rcases List.mem_cons.mp h with rfl | h
      · exact List.mem_cons_self ..
      · exact List.mem_cons_of_mem _ (dedup_sub h)
theorem dedup_ok {B : Int} {n : Nat} : ∀ {xs : List D}, (∀ d ∈ xs, TOk B n d) → (dedupD xs).Nodup ∧ ∀ d ∈ xs, d ∈ dedupD xs
  | [], _ => ⟨List.nodup_nil, fun _ h => nomatch h⟩
  | x :: xs, h => by
    obtain ⟨h1, h2⟩ := dedup_ok (xs := xs) fun d hd => h d (List.mem_cons_of_mem _ hd)
    unfold dedupD
    have hx := h x (List.mem_cons_self ..)
    split
    · rename_i hh
      refine ⟨h1, fun d hd => ?_⟩
      rcases List.mem_cons.mp hd with e | hd
      · rw [List.any_eq_true] at hh
        obtain ⟨y, hy, hxy⟩ := hh
        have hy' := h y (List.mem_cons_of_mem _ hy)
        rw [e, ← (hy'.eqv hx).mp hxy]
        exact h2 y hy
      · exact h2 d hd
    · rename_i hh
      refine ⟨List.nodup_cons.mpr ⟨fun hm => hh ?_, h1⟩, fun d hd => ?_⟩
      · rw [List.any_eq_true]
        exact ⟨x, dedup_sub hm, (hx.eqv hx).mpr rfl⟩
      · rcases List.mem_cons.mp hd with e | hd
        · rw [e]; exact List.mem_cons_self ..
        · exact List.mem_cons_of_mem _ (h2 d hd)
/-- the tuples with their addresses -/
theorem tups_at {B : Int} {n : Nat} : ∀ {ds : List D} {vs : List V}, Rels K F R ds vs → (∀ d ∈ ds, TOk B n d) → ∃ ks : List (Addr × List Int), vs = ks.map (fun p => V.ref p.1) ∧ ds = ks.map (fun p => D.tup (p.2.map D.int)) ∧ ∀ p ∈ ks, F p.1 = some (.tup (p.2.map V.int)) ∧ p.2.length = n ∧ TS.Bd B p.2
  | [], _, r, _ => by unfold Rels at r; subst r; exact ⟨[], rfl, rfl, fun _ h => nomatch h⟩
  | d :: ds, _, r, h => by
    unfold Rels at r
    obtain ⟨v, ws, rfl, h1, h2⟩ := r
    obtain ⟨ks, e1, e2, e3⟩ := tups_at h2 fun d hd => h d (List.mem_cons_of_mem _ hd)
    have hd := h d (List.mem_cons_self ..)
    have ht := hd.t
    have hl := hd.l
    have hb := hd.b
    generalize intsD d = ns at ht hl hb
    subst ht
    unfold Rel at h1
    obtain ⟨a, vs, rfl, h3, h4⟩ := h1
    obtain ⟨rfl, _⟩ := ints_vals h4 (asInts_of ns)
    refine ⟨(a, ns) :: ks, by rw [e1]; rfl, by rw [e2]; rfl, fun p hp => ?_⟩
    rcases List.mem_cons.mp hp with rfl | hp
    · exact ⟨h3, hl, hb⟩
    · exact e3 p hp
theorem rels_tups : ∀ {ks : List (Addr × List Int)}, (∀ p ∈ ks, F p.1 = some (.tup (p.2.map V.int))) → Rels K F R (ks.map fun p => D.tup (p.2.map D.int)) (ks.map fun p => V.ref p.1)
  | [], _ => Rels.nil
  | p :: ks, h => Rels.cons (by unfold Rel; exact ⟨p.1, _, rfl, h p (List.mem_cons_self ..), rels_ints _⟩) (rels_tups fun q hq => h q (List.mem_cons_of_mem _ hq))
theorem intsD_tup (ns : List Int) : intsD (.tup (ns.map D.int)) = ns := by
  unfold intsD tupD
  simp [asInts_of]
theorem tup_inj {a b : List Int} (h : D.tup (a.map D.int) = D.tup (b.map D.int)) : a = b := by
  injection h with e
  exact (List.map_inj_right (fun a b h => by injection h)).mp e
/-- a set of tuples that is sorted: from the set -/
theorem set_sorted {P : Program} {w : World} {m : Md} {B : Int} {n : Nat} {ks L : List (Addr × List Int)} {a : Addr} {Q : VK} (so : StOk K F R H st) (hn : 1 ≤ n) (hk : ∀ p ∈ ks, F p.1 = some (.tup (p.2.map V.int)) ∧ p.2.length = n ∧ TS.Bd B p.2)
    (ha : H a = none) (hL : ∀ p ∈ L, p ∈ ks) (hA : ∀ p ∈ ks, p.2 ∈ L.map (·.2))
    (hf : Fin m K F R H st (.lst (sortBy (fun d => TS.code B (intsD d)) (dedupD (ks.map fun p => D.tup (p.2.map D.int))))) Q) :
    rSortedT K P w [.ref a] (upd H a (SetTO P w a L)) Q := by
  have so2 : StOk K F R (upd H a (SetTO P w a L)) st := so.newH ha
  refine ⟨a, L, n, B, rfl, upd_same, fun p hp => .inl (.inl (so2.same _ _ (hk p (hL p hp)).1)), hn, fun p hp => (hk p (hL p hp)).2, fun L' p pm nd _ pw hp => ?_⟩
  have ht : ∀ d ∈ (ks.map fun p => D.tup (p.2.map D.int)), TOk B n d := fun d hd => by
    obtain ⟨p, hp, rfl⟩ := List.mem_map.mp hd
    obtain ⟨_, h2, h3⟩ := hk p hp
    exact ⟨by rw [intsD_tup], by rw [intsD_tup]; exact h2, by rw [intsD_tup]; exact h3⟩
  obtain ⟨d1, d2⟩ := dedup_ok ht
  have hL' : ∀ p ∈ L', F p.1 = some (.tup (p.2.map V.int)) := fun p hp => (hk p (hL p (pm.mem_iff.mp hp))).1
  have nd2 : (L'.map fun p => D.tup (p.2.map D.int)).Nodup := by
    have : (L'.map fun p => D.tup (p.2.map D.int)) = (L'.map (·.2)).map fun q => D.tup (q.map D.int) := by rw [List.map_map]; rfl
    rw [this]
    exact List.Pairwise.map _ (fun a b hab e => hab (tup_inj e)) nd
  have e : (L'.map fun p => D.tup (p.2.map D.int)) = sortBy (fun d => TS.code B (intsD d)) (dedupD (ks.map fun p => D.tup (p.2.map D.int))) := by
    refine sort_one _ (((List.perm_ext_iff_of_nodup nd2 d1).mpr fun d => ⟨fun hd => ?_, fun hd => ?_⟩).trans (sortBy_perm _ _).symm) ?_ (sortBy_pw _ _) fun x hx y hy h => ?_
    · obtain ⟨q, hq, rfl⟩ := List.mem_map.mp hd
      exact d2 _ (List.mem_map.mpr ⟨q, hL q (pm.mem_iff.mp hq), rfl⟩)
    · obtain ⟨q, hq, rfl⟩ := List.mem_map.mp (dedup_sub hd)
      obtain ⟨q', hq', e⟩ := List.mem_map.mp (hA q hq)
      exact List.mem_map.mpr ⟨q', pm.mem_iff.mpr hq', by rw [e]⟩
    · rw [List.pairwise_map]
      exact pw.imp fun {x y} h => by simp only [intsD_tup]; exact h
    · obtain ⟨q, hq, rfl⟩ := List.mem_map.mp hx
      obtain ⟨q', hq', rfl⟩ := List.mem_map.mp hy
      exact (ht _ (List.mem_map.mpr ⟨q, hL q (pm.mem_iff.mp hq), rfl⟩)).inj (ht _ (List.mem_map.mpr ⟨q', hL q' (pm.mem_iff.mp hq'), rfl⟩)) h
  rw [← e] at hf
  have hf2 : Fin m K F R (upd H a (SetTO P w a L)) st (.lst (L'.map fun p => D.tup (p.2.map D.int))) Q := fun F' R' H' v g so' r => hf F' R' H' v ((Grow.newH ha).trans g) so' (r.back (Grow.newH (F := F) (R := R) ha).back)
  exact hf2.lst so2 (rels_tups hL') p hp
end
section
variable {T : Tb} {cl : Cl}
theorem bi_pe {X : Cx} {EX : EXT} {W : WX} {es : Es} {b : Bi} {m : Md} {r : List V → Hp → VK → Prop} (hs : BiS X b r) : ∀ σ H Q, tE m X.K EX W (fun e st => (sems T cl es e st).bind fun ds s1 => ofO (biD s1 b ds) s1) σ H Q → tCB r (tA .t X.K EX W (sems T cl es)) σ H Q :=
  fun σ H Q ⟨F, R, env, st, so, eo, q⟩ => ⟨F, R, env, st, so, eo, q.bind.imp fun ds st1 F1 R1 H1 g1 so1 q1 => fun vs hvs => by
    obtain ⟨z, hz, q3⟩ := q1.ofO
    obtain ⟨q4, q5⟩ := Fin.of (W := W) (σ := σ) so1 g1.back q3
    exact hs m F1 R1 H1 st1 ds vs z Q so1 hvs hz q4 q5⟩
theorem snd_bi {b : Bi} {es : Es} (hb : b ≠ .ssrt) (hs : SndA T cl es) : Snd T cl (.bi b es) := Snd.mkT (fun {X M EX W} c e h m hg => by
    obtain ⟨x, p, xs, q, rfl, h1, h2, h3, h4, h5⟩ := mat_bi hb h
    have hA := hs.a c h4 .t rfl
    obtain ⟨g1, g2⟩ := c.glo h2
    have hc := c.calm h5
    have hu := c.units
    have hgd := c.guards
    have hpl := fun env pos => mats_plain (env := env) (pos := pos) h4
    have hm : x ∈ bltNames → X.mg x = none := c.blt x
    subst h1
    cases es with
    | nil => cases b <;> cases h3
    | cons a es =>
      obtain ⟨y, r, rfl, k1, k2⟩ := mats_cons h4
      have hst := star_each (es := r) (env := X.env) (mat_ns k1)
      have hpl2 := mats_plain (env := X.env) (pos := q) k2
      cases b <;> first | exact absurd rfl hb | skip
      · exact pe_imp (pe_callB call_len g1 (hm (by decide)) rfl hA (by decide) (by decide) hst hpl2) (bi_pe bs_len)
      · exact pe_imp (pe_callB call_abs g1 (hm (by decide)) rfl hA (by decide) (by decide) hst hpl2) (bi_pe bs_abs)
      · exact pe_imp (pe_callTy call_int1 g1 (hm (by decide)) rfl hA (by decide) (by decide) hst hpl2) (bi_pe bs_int)
      · exact pe_imp (pe_callTy call_bool1 g1 (hm (by decide)) rfl hA (by decide) (by decide) hst hpl2) (bi_pe bs_bool)
      · exact pe_imp (pe_callTy call_tuple_of g1 (hm (by decide)) rfl hA (by decide) (by decide) hst hpl2) (bi_pe bs_tup)
      · exact pe_imp (pe_callTy call_list_of g1 (hm (by decide)) rfl hA (by decide) (by decide) hst hpl2) (bi_pe bs_lst)
      · exact pe_imp (pe_callB (CallR.or cr_sortedI cr_srtU) g1 (hm (by decide)) rfl hA (by decide) (by decide) hst hpl2) (bi_pe bs_srt)
      · exact pe_imp (pe_callB (CallR.or (cr_sum hc) (cr_sumT hc)) g1 (hm (by decide)) rfl hA (by decide) (by decide) hst hpl2) (bi_pe bs_sum)
      · exact pe_imp (pe_callB (CallR.or (cr_min hc) (cr_minDat hc hu)) g1 (hm (by decide)) rfl hA (by decide) (by decide) hst hpl2) (bi_pe bs_min1)
      · exact pe_imp (pe_callB (CallR.or (cr_max hc) (cr_maxDat hc hu)) g1 (hm (by decide)) rfl hA (by decide) (by decide) hst hpl2) (bi_pe bs_max1)
      · exact pe_imp (pe_callB (call_min2 hc) g1 (hm (by decide)) rfl hA (by decide) (by decide) hst hpl2) (bi_pe bs_min2)
      · exact pe_imp (pe_callB (call_max2 hc) g1 (hm (by decide)) rfl hA (by decide) (by decide) hst hpl2) (bi_pe bs_max2)
      · exact pe_imp (pe_callB (cr_all hc) g1 (hm (by decide)) rfl hA (by decide) (by decide) hst hpl2) (bi_pe bs_all)
      · exact pe_imp (pe_callB (cr_any hc) g1 (hm (by decide)) rfl hA (by decide) (by decide) hst hpl2) (bi_pe bs_any)
      · exact pe_imp (pe_callB (call_repr hgd hu) g1 (hm (by decide)) rfl hA (by decide) (by decide) hst hpl2) (bi_pe bs_repr))
  (fun {M e} h => by obtain ⟨x, p, xs, q, rfl, _⟩ := mat_bi hb h; rfl) rfl
theorem dedupZ_mem : ∀ {xs : List Int} {x : Int}, x ∈ dedupZ xs ↔ x ∈ xs
  | [], x => by simp [dedupZ]
  | y :: xs, x => by
    unfold dedupZ
    split
    · rename_i h
      rw [dedupZ_mem, List.mem_cons]
      exact ⟨.inr, fun q => q.elim (fun e => e ▸ h) id⟩
    · rw [List.mem_cons, List.mem_cons, dedupZ_mem]
theorem dedupZ_nd : ∀ {xs : List Int}, (dedupZ xs).Nodup
  | [] => by simp [dedupZ]
  | y :: xs => by
    unfold dedupZ
    split
    · exact dedupZ_nd
    · rename_i h
      exact List.nodup_cons.mpr ⟨fun q => h (dedupZ_mem.mp q), dedupZ_nd⟩
theorem sortZ_one {ns ns' : List Int} (pw : ns'.Pairwise (· < ·)) (hm : ∀ k, k ∈ ns' ↔ k ∈ ns) : ns' = sortBy id (dedupZ ns) := by
  have nd : ns'.Nodup := pw.imp fun h e => by omega
  refine sort_one id (((List.perm_ext_iff_of_nodup nd dedupZ_nd).mpr fun k => by rw [hm, dedupZ_mem]).trans (sortBy_perm id _).symm) ?_ (sortBy_pw id _) fun a _ b _ h => h
  exact pw.imp fun h => Int.le_of_lt h
theorem snd_ssrt {a : Ex} (ha : Snd T cl a) : Snd T cl (.bi .ssrt (.cons a .nil)) := Snd.mkT (fun {X M EX W} c e h m hg => by
    obtain ⟨x, p, y, q, y', r, s, rfl, rfl, h1, rfl, h2, h3, h4⟩ := mat_ssrt h
    obtain ⟨g1, g2⟩ := c.glo h1
    obtain ⟨g3, g4⟩ := c.glo h2
    have hc := c.calm h4
    have hu := c.units
    have hst := star_each (es := []) (env := X.env) (mat_ns h3)
    refine pe_imp (pe_callB (CallR.or (cr_sortedT hc) (cr_sortSetI hc)) g1 (c.blt _ (by decide)) rfl (pa_cons (pe_callTy (CallR.or (cr_setOfT hc (by omega)) (cr_setOfI hc)) g3 (c.blt _ (by decide)) rfl (pa_cons (ha.v c h3 .t rfl) pa_nil hst) (by decide) (by decide) hst rfl) pa_nil)) fun σ H Q ⟨F, R, env, st, so, eo, q⟩ => ?_
    refine ⟨F, R, env, st, so, eo, q.bind.bind.imp fun d st1 F1 R1 H1 g1 so1 q1 => ⟨trivial, fun v hv => ?_⟩⟩
    obtain ⟨z, hz, q3⟩ := (After.here q1 so1).ofO
    obtain ⟨q4, q5⟩ := Fin.of (W := W) (σ := σ) so1 g1.back q3
    obtain ⟨xs, k1, k2⟩ := Option.bind_eq_some_iff.mp hz
    obtain ⟨l, vs, rfl, k5, k6⟩ := lstD_r so1 hv k1
    cases hns : asInts xs with
    | none =>
      rw [hns] at k2
      obtain ⟨k3, rfl⟩ := ite_some k2
      obtain ⟨k3, k4⟩ := b2 k3
      obtain ⟨n, hn, ht⟩ := tups_ok k3
      obtain ⟨ks, rfl, rfl, e3⟩ := tups_at k6 ht
      refine .inl ⟨l, ks, rfl, k5, fun p hp => .inl (.inl (so1.same _ _ (e3 p hp).1)), by simpa using of_decide_eq_true k4, fun a L hal hL hA => .inl ?_⟩
      exact set_sorted so1 hn e3 hal hL hA q5
    | some ns =>
      rw [hns] at k2
      obtain ⟨k3, rfl⟩ := ite_some k2
      obtain ⟨rfl, rfl⟩ := ints_vals k6 hns
      refine .inr ⟨l, ns, rfl, k5, by unfold scanBound; omega, fun a c ha => .inr ⟨a, _, c, rfl, upd_same, fun ns' p pw hm hp => ?_⟩⟩
      rw [sortZ_one (ns := ns) pw fun k => by rw [hm k, decide_eq_true_eq]]
      have so2 := so1.newH (o := SetO X.w a (fun j => decide (j ∈ ns)) c) ha
      have hf2 : Fin m X.K F1 R1 (upd H1 a (SetO X.w a (fun j => decide (j ∈ ns)) c)) st1 (.lst ((sortBy id (dedupZ ns)).map .int)) Q := fun F' R' H' v g so' r => q5 F' R' H' v ((Grow.newH ha).trans g) so' (r.back (Grow.newH (F := F1) (R := R1) ha).back)
      exact hf2.lst so2 (rels_ints _) p hp)
  (fun {M e} h => by obtain ⟨x, p, y, q, y', r, s, rfl, _⟩ := mat_ssrt h; rfl) rfl
end
end Nb
end
section
set_option Elab.async false
set_option linter.all false
set_option maxRecDepth 100000
set_option maxHeartbeats 4000000
/-! NbL: calls of the program's own defs -/
namespace Nb
open PySem PySem.Spec PyProof.Rows L2

def AllS (T : Tb) (cl : Cl) : Es → Prop
  | .nil => True
  | .cons a es => Snd T cl a ∧ AllS T cl es
section
variable {T : Tb} {cl : Cl} {X : Cx} {M : Mc} {EX : EXT} {W : WX}
theorem AllS.a : ∀ {es : Es}, AllS T cl es → SndA T cl es
  | .nil, _ => sndA_nil
  | .cons _ _, h => sndA_cons h.1 (AllS.a h.2)
/-- the keywords' values -/
theorem args_kw (c : Ctx T cl X M EX W) (pos : Pos) : ∀ {kws : List Keyword} {es : Es}, AllS T cl es → mats M es (kwV kws) = true → stgs es = true → ∀ pins s σ H (Q : List V → Hp → Prop), Inv X pins σ H s → tA .s X.K EX W (sems T cl es) σ H Q →
    wpAny (model X.prog X.w) X.A (evalAll ((backToKw pos (keywordEach kws X.env)).map (·.2))) (fun ws s2 => ∃ vs H', Inv X pins σ H' s2 ∧ Vals vs ws ∧ Q vs H') X.xe s
  | [], es, _, hm, _, pins, s, σ, H, Q, I, ⟨F, R, env, st, so, eo, q⟩ => by
    cases es with
    | cons a es => obtain ⟨x, r, e, _⟩ := mats_cons hm; cases e
    | nil => exact wpAny_evalAll_nil ⟨[], H, I, .nil, After.here q so [] rfl⟩
  | ⟨nm, e, kp⟩ :: kws, es, ha, hm, hg, pins, s, σ, H, Q, I, ⟨F, R, env, st, so, eo, q⟩ => by
    cases es with
    | nil => cases mats_nil hm
    | cons a es =>
      obtain ⟨x, r, e1, h1, h2⟩ := mats_cons hm
      cases e1
      obtain ⟨g1, g2⟩ := b2 hg
      refine wpAny_evalAll_cons (wpAny_bind (thn ((ha.1.v c h1 .s g1).run pins s σ H (fun v H1 => tA .s X.K EX W (sems T cl es) σ H1 fun vs H2 => Q (v :: vs) H2) I ?_) fun u s1 ⟨v, H1, I1, r1, q1⟩ => wpAny_bind (wpAny_standAt (wpAny_pure ?_))))
      · exact ⟨F, R, env, st, so, eo, q.bind.imp fun d st1 F1 R1 H1 g1 so1 q1 => ⟨trivial, fun v hv =>
          ⟨F1, R1, env, st1, so1, eo.grow g1, q1.bind.imp fun ds st2 F2 R2 H2 g2 so2 q2 => fun vs hvs =>
            After.here q2 so2 (v :: vs) ⟨v, vs, rfl, Rel.mono g2.sameF g2.pre hv, hvs⟩⟩⟩⟩
      · exact thn (args_kw c pos ha.2 h2 g2 pins s1 σ H1 _ I1 q1) fun ws s2 ⟨vs, H2, I2, r2, q2⟩ => ⟨v :: vs, H2, I2, .cons r1 r2, q2⟩
theorem args_all (c : Ctx T cl X M EX W) (pos : Pos) {kws : List Keyword} : ∀ {xs : List Expr} {es : Es}, AllS T cl es → mats M es (xs ++ kwV kws) = true → stgs es = true → ∀ pins s σ H (Q : List V → Hp → Prop), Inv X pins σ H s → tA .s X.K EX W (sems T cl es) σ H Q →
    wpAny (model X.prog X.w) X.A (spliced (backTo pos (starEach xs X.env))) (fun us s1 => us.length = xs.length ∧ wpAny (model X.prog X.w) X.A (evalAll ((backToKw pos (keywordEach kws X.env)).map (·.2))) (fun ws s2 => ∃ vs H', Inv X pins σ H' s2 ∧ Vals vs (us ++ ws) ∧ Q vs H') X.xe s1) X.xe s
  | [], es, ha, hm, hg, pins, s, σ, H, Q, I, q => Calls.spliced_nil ⟨rfl, args_kw c pos ha hm hg pins s σ H Q I q⟩
  | x :: xs, es, ha, hm, hg, pins, s, σ, H, Q, I, ⟨F, R, env, st, so, eo, q⟩ => by
    cases es with
    | nil => cases mats_nil hm
    | cons a es =>
      obtain ⟨x', r, e1, h1, h2⟩ := mats_cons hm
      cases e1
      obtain ⟨g1, g2⟩ := b2 hg
      rw [star_each (mat_ns h1)]
      show wpAny _ _ (spliced ((false, eval x X.env) :: backTo pos (starEach xs X.env))) _ _ s
      refine Calls.spliced_cons (thn ((ha.1.v c h1 .s g1).run pins s σ H (fun v H1 => tA .s X.K EX W (sems T cl es) σ H1 fun vs H2 => Q (v :: vs) H2) I ?_) fun u s1 ⟨v, H1, I1, r1, q1⟩ => ?_)
      · exact ⟨F, R, env, st, so, eo, q.bind.imp fun d st1 F1 R1 H1 g1 so1 q1 => ⟨trivial, fun v hv =>
          ⟨F1, R1, env, st1, so1, eo.grow g1, q1.bind.imp fun ds st2 F2 R2 H2 g2 so2 q2 => fun vs hvs =>
            After.here q2 so2 (v :: vs) ⟨v, vs, rfl, Rel.mono g2.sameF g2.pre hv, hvs⟩⟩⟩⟩
      · exact thn (args_all c pos ha.2 h2 g2 pins s1 σ H1 _ I1 q1) fun us s2 ⟨hl, q2⟩ => ⟨by simp [hl], thn q2 fun ws s3 ⟨vs, H3, I3, r3, q3⟩ => ⟨v :: vs, H3, I3, .cons r1 r3, q3⟩⟩
/-! keywords -/
theorem kwB_ok {pos : Pos} {env : Env} : ∀ {ks : List Str} {kws : List Keyword}, kwB ks kws = true → (backToKw pos (keywordEach kws env)).all (·.1.isSome) = true ∧ (backToKw pos (keywordEach kws env)).filterMap (·.1) = ks ∧ (backToKw pos (keywordEach kws env)).any (·.1.isNone) = false ∧ (kwV kws).length = ks.length
  | [], [], _ => ⟨rfl, rfl, rfl, rfl⟩
  | [], k :: kws, h => by unfold kwB at h; exact ff h
  | _ :: _, [], h => by unfold kwB at h; exact ff h
  | k :: ks, ⟨n, v, p⟩ :: kws, h => by
    cases n with
    | none => unfold kwB at h; exact ff h
    | some n =>
      unfold kwB at h
      obtain ⟨h1, h2⟩ := b2 h
      obtain ⟨a1, a2, a3, a4⟩ := kwB_ok (pos := pos) (env := env) h2
      have h1 := of_decide_eq_true h1
      subst h1
      have e : backToKw pos (keywordEach (⟨some n, v, p⟩ :: kws) env) = (some n, do let v ← eval v env; standAt pos; pure v) :: backToKw pos (keywordEach kws env) := rfl
      rw [e]
      refine ⟨?_, ?_, ?_, ?_⟩
      · rw [List.all_cons, a1]; rfl
      · rw [List.filterMap_cons, a2]
      · rw [List.any_cons, a3]; rfl
      · show (kwV kws).length + 1 = ks.length + 1
        rw [a4]
theorem no_star {M : Mc} {env : Env} {pos : Pos} {ys : List Expr} : ∀ {xs : List Expr} {es : Es}, mats M es (xs ++ ys) = true → (backTo pos (starEach xs env)).any (·.1) = false
  | [], _, _ => rfl
  | x :: xs, es, h => by
    cases es with
    | nil => cases mats_nil h
    | cons a es =>
      obtain ⟨x', r, e, h1, h2⟩ := mats_cons h
      cases e
      rw [star_each (mat_ns h1)]
      exact no_star h2
theorem mats_len {M : Mc} : ∀ {es : Es} {xs : List Expr}, mats M es xs = true → es.len = xs.length
  | .nil, _, h => by cases mats_nil h; rfl
  | .cons a es, _, h => by
    obtain ⟨x, r, rfl, _, h2⟩ := mats_cons h
    show es.len + 1 = r.length + 1
    rw [mats_len h2]
theorem perm_rels {K : PySem.W.Frag} {F : Hp} {R : List Addr} {ds : List D} {vs : List V} (r : Rels K F R ds vs) : ∀ {p : List Nat} {es : List D}, permL p ds = some es → ∃ ws, permL p vs = some ws ∧ Rels K F R es ws
  | [], es, h => by cases h; exact ⟨[], rfl, Rels.nil⟩
  | i :: p, es, h => by
    unfold permL at h
    rw [List.mapM_cons] at h
    cases e1 : ds[i]? with
    | none => rw [e1] at h; cases h
    | some d =>
      rw [e1] at h
      cases e2 : p.mapM (fun i => ds[i]?) with
      | none => rw [e2] at h; cases h
      | some fs =>
        rw [e2] at h
        cases h
        obtain ⟨v, q1, q2⟩ := r.get e1
        obtain ⟨ws, q3, q4⟩ := perm_rels r (p := p) e2
        refine ⟨v :: ws, ?_, Rels.cons q2 q4⟩
        unfold permL at q3 ⊢
        rw [List.mapM_cons, q1, q3]
        rfl
theorem perm_vals {vs : List V} {us : List Value} (r : Vals vs us) : ∀ {p : List Nat} {es : List V}, permL p vs = some es → ∃ ws, permL p us = some ws ∧ Vals es ws
  | [], es, h => by cases h; exact ⟨[], rfl, .nil⟩
  | i :: p, es, h => by
    unfold permL at h
    rw [List.mapM_cons] at h
    cases e1 : vs[i]? with
    | none => rw [e1] at h; cases h
    | some d =>
      rw [e1] at h
      cases e2 : p.mapM (fun i => vs[i]?) with
      | none => rw [e2] at h; cases h
      | some fs =>
        rw [e2] at h
        cases h
        obtain ⟨v, q1, q2⟩ := r.get e1
        obtain ⟨ws, q3, q4⟩ := perm_vals r (p := p) e2
        refine ⟨v :: ws, ?_, .cons q2 q4⟩
        unfold permL at q3 ⊢
        rw [List.mapM_cons, q1, q3]
        rfl
/-- the callee runs -/
theorem run_G {k : Nat} {f : Addr} {fd : FuncData} {ps : List Str} {sp : Sp} {pins : List (Addr × Obj)} {σ : L2.St} {H : Hp} {s : Shared} {Q : VK} {args : Args} {us : List Value} {vs : List V} {E : XK} (F : FnG X.prog X.w X.K X.mg X.base k f fd ps sp) (hr : Room k X.A) (hgd : X.A.guards = some [])
    (hb : BindsTo s fd args (ps.zip us)) (hx : PassesAt (L2.CX X.prog X.w) X σ E) (I : Inv X pins σ H s) (r : Vals vs us) (h : sp vs H Q E) : wpAny (model X.prog X.w) X.A (call (.ref f) args.pos args.kw) (EP X pins σ Q) X.xe s := by
  refine wpAny_call (codeAny_mono (F.run X.A X.stack s H args us vs Q E hr hgd I.env0 hb r h) fun r s' hq => ?_)
  cases r with
  | error e => exact hx pins H s e s' I hq
  | ok fl =>
    cases fl with
    | ret u => exact I.after hq
    | next => exact False.elim hq
    | brk => exact False.elim hq
    | cont => exact False.elim hq
/-- as many values as there are arguments -/
theorem sems_ok {env : Enw} : ∀ (es : Es) (st : Sto) ds st1, sems T cl es env st = .ok ds st1 → ds.length = es.len := by
  intro es
  induction es using Es.rec (motive_1 := fun _ => True) (motive_3 := fun _ => True) (motive_4 := fun _ => True) with
  | nil => intro st ds st1 e; cases e; rfl
  | cons a es _ ih =>
    intro st ds st1 e
    unfold sems at e
    cases e1 : (sem T cl a).v env st with
    | bad => rw [e1] at e; cases e
    | exc _ _ _ => rw [e1] at e; cases e
    | ok x s1 =>
      rw [e1] at e
      change (sems T cl es env s1).bind _ = _ at e
      cases e2 : sems T cl es env s1 with
      | bad => rw [e2] at e; cases e
      | exc _ _ _ => rw [e2] at e; cases e
      | ok xs s2 =>
        rw [e2] at e
        cases e
        show xs.length + 1 = es.len + 1
        rw [ih _ _ _ e2]
  | _ => trivial
theorem sems_len {K : PySem.W.Frag} {σ : L2.St} {F : Hp} {R : List Addr} {H : Hp} {α : Type} {G : α → Sto → Hp → List Addr → Hp → Prop} {es : Es} {env : Enw} {st : Sto} {f : List D → Sto → Res α} (h : After K W σ F R H ((sems T cl es env st).bind f) G) :
    After K W σ F R H (sems T cl es env st) fun ds st1 F1 R1 H1 => ds.length = es.len ∧ After K W σ F1 R1 H1 (f ds st1) G :=
  h.bind.eqn.imp fun _ _ _ _ _ _ _ q => ⟨sems_ok _ _ _ _ q.1, q.2⟩
/-- from the evaluator's promise -/
theorem sp_of {m : Md} {n : Nat} {cf : List D → Sto → Res D} {F : Hp} {R : List Addr} {H H0 : Hp} {σ : L2.St} {ds : List D} {vs : List V} {st : Sto} {Q : VK} (hm : m ≠ .f) (so : StOk X.K F R H st) (r : Rels X.K F R ds vs) (hl : ds.length = n)
    (q : After X.K W σ F R H (cf ds st) fun d _ F' R' H' => okM m d ∧ ∀ v, RR m X.K H0 F' R' H' d v → Q v H') : spD X.K n cf vs H Q (WE W σ) := by
  refine ⟨F, R, st, ds, hl, so, r, ?_⟩
  cases e : cf ds st with
  | bad => rw [e] at q; exact q.elim
  | ok d st' =>
    rw [e] at q
    exact fun F' R' H' v g so' rv => (q F' R' H' g so').2 v (by
      cases m with
      | s => exact rv
      | t => exact .inl rv
      | f => exact absurd rfl hm)
  | exc x fs st' =>
    rw [e] at q
    exact fun F' R' H' d g so' rx => q F' R' H' d g so' rx
theorem after_mono {K : PySem.W.Frag} {σ : L2.St} {F F' : Hp} {R R' : List Addr} {H H' : Hp} {α : Type} {r : Res α} {G : α → Sto → Hp → List Addr → Hp → Prop} (g : Grow F R H F' R' H') (h : After K W σ F R H r G) : After K W σ F' R' H' r G := by
  cases r with
  | bad => exact h
  | ok a st => exact fun F2 R2 H2 g2 so => h F2 R2 H2 (g.trans g2) so
  | exc c fs st => exact fun F2 R2 H2 d g2 so x => h F2 R2 H2 d (g.trans g2) so x
theorem snd_cal {f : Str} {es : Es} {ks : List Str} (ha : AllS T cl es) : Snd T cl (.cal f es ks) := Snd.mkT (fun {X M EX W} c e h m hg => by
    obtain ⟨p, xs, kws, pos, rfl, h1, h2, h3, h4, h5⟩ := mat_cal h
    have hm : m ≠ .f := fun e => by subst e; exact ff hg
    obtain ⟨g1, g2⟩ := c.glo h1
    refine ⟨fun pins s σ H Q I hq => ?_⟩
    obtain ⟨F, R, env, st, so, eo, q⟩ := hq
    dsimp only [sem, Nb.mkT] at q
    cases hf : T.fps f with
    | none => rw [hf] at q; exact q.elim
    | some ps =>
      rw [hf] at q
      obtain ⟨k, fa, fd, k1, k2, k3, k4, k5, k6⟩ := c.cls h5 f ps hf
      have hgd := c.guards
      have hx := passAt c.tk σ
      have hlen := mats_len h4
      -- the callee, from its arguments
      have fin : ∀ ds vs us H1 s1 F1 R1 st1, ds.length = es.len → Grow F R H F1 R1 H1 → StOk X.K F1 R1 H1 st1 → Rels X.K F1 R1 ds vs → Inv X pins σ H1 s1 → Vals vs us →
          After X.K W σ F1 R1 H1 (calD T cl f ps ks ds st1) (fun d _ F' R' H' => okM m d ∧ ∀ v, RR m X.K H F' R' H' d v → Q v H') →
          ∀ (pa : List Value) (wa : List Value), us = pa ++ wa → pa.length = xs.length → wpAny (model X.prog X.w) X.A (call (.ref fa) pa (ks.zip wa)) (EP X pins σ Q) X.xe s1 := fun ds vs us H1 s1 F1 R1 st1 hds g1 so1 r1 I1 rv q1 pa wa eu hpa => by
        have hvl := r1.len
        have hul := rv.length
        cases ks with
        | nil =>
          unfold calD at q1
          simp only at q1
          split at q1
          · rename_i hl
            have hw : wa = [] := by
              have e1 : (kwV kws).length = 0 := (kwB_ok (pos := p) (env := X.env) h2).2.2.2
              have : pa.length + wa.length = xs.length + (kwV kws).length := by
                rw [← List.length_append, ← eu, ← hul, ← hvl, hds, hlen, List.length_append]
              exact List.length_eq_zero_iff.mp (by omega)
            subst hw
            rw [List.append_nil] at eu
            subst eu
            have b := k5 s1 us I1.kIn (by rw [List.append_nil, ← hul, ← hvl]; exact hl)
            rw [List.append_nil] at b
            exact run_G (args := ⟨us, []⟩) k4 k3 hgd b hx I1 rv (sp_of hm so1 r1 hl q1)
          · exact q1.elim
        | cons k0 ks =>
          unfold calD at q1
          simp only at q1
          have e1 : (kwV kws).length = (k0 :: ks).length := (kwB_ok (pos := p) (env := X.env) h2).2.2.2
          have e2 : pa.length + wa.length = xs.length + (kwV kws).length := by
            rw [← List.length_append, ← eu, ← hul, ← hvl, hds, hlen, List.length_append]
          cases e3 : T.kwp f (ds.length - (k0 :: ks).length) (k0 :: ks) with
          | none => rw [e3] at q1; exact q1.elim
          | some pp =>
            rw [e3] at q1
            simp only at q1
            cases e4 : permL pp ds with
            | none => rw [e4] at q1; exact q1.elim
            | some es' =>
              rw [e4] at q1
              simp only at q1
              split at q1
              · rename_i hl
                obtain ⟨ws, p1, p2⟩ := perm_rels r1 e4
                obtain ⟨zs, p3, p4⟩ := perm_vals rv p1
                have b := k6 _ _ _ e3 s1 pa wa zs I1.kIn (by rw [hds, hlen, List.length_append]; omega) (by omega) (by rw [← eu]; exact p3)
                exact run_G (args := ⟨pa, (k0 :: ks).zip wa⟩) k4 k3 hgd b hx I1 p4 (sp_of hm so1 p2 hl q1)
              · exact q1.elim
      -- the arguments
      let P : List V → Hp → Prop := fun vs H1 => ∃ ds F1 R1 st1, ds.length = es.len ∧ Grow F R H F1 R1 H1 ∧ StOk X.K F1 R1 H1 st1 ∧ Rels X.K F1 R1 ds vs ∧ After X.K W σ F1 R1 H1 (calD T cl f ps ks ds st1) (fun d _ F' R' H' => okM m d ∧ ∀ v, RR m X.K H F' R' H' d v → Q v H')
      have hP : tA .s X.K EX W (sems T cl es) σ H P := ⟨F, R, env, st, so, eo, (sems_len q).imp fun ds st1 F1 R1 H1 g1 so1 q1 => fun vs hvs => ⟨ds, F1, R1, st1, q1.1, g1, so1, RRs.rels hvs, q1.2⟩⟩
      obtain ⟨a1, a2, a3, a4⟩ := kwB_ok (pos := pos) (env := X.env) h2
      refine wpAny_Call_Name_kw (ld_glob I g1 k1 ?_ g2)
      have hall := args_all c pos ha h4 h3 pins s σ H P I hP
      have nst := no_star (env := X.env) (pos := pos) h4
      cases xs with
      | nil =>
        refine PySem.W.callWith_KW0 (h₀ := X.base) I.ok.mod.kin k2 a1 ?_ (by rw [a3]; rfl)
        rw [a2]
        exact thn (args_kw c pos ha h4 h3 pins s σ H P I hP) fun ws s2 ⟨vs, H2, I2, rv, ds, F1, R1, st1, p1, p2, p3, p4, p5⟩ => ⟨I2.kIn, fin ds vs ws H2 s2 F1 R1 st1 p1 p2 p3 p4 I2 rv p5 [] ws rfl rfl⟩
      | cons x xs =>
        have hx1 : starEach (x :: xs) X.env = (false, eval x X.env) :: starEach xs X.env := by
          cases es with
          | nil => cases mats_nil h4
          | cons a es =>
            obtain ⟨x', r, e, q1, q2⟩ := mats_cons h4
            cases e
            exact star_each (mat_ns q1)
        refine PySem.W.callWith_KW (h₀ := X.base) I.ok.mod.kin k2 a1 ?_ (by rw [nst, a3]; rfl) hx1
        rw [a2]
        exact thn hall fun us s1 ⟨hl, q2⟩ => thn q2 fun ws s2 ⟨vs, H2, I2, rv, ds, F1, R1, st1, p1, p2, p3, p4, p5⟩ => ⟨I2.kIn, fin ds vs (us ++ ws) H2 s2 F1 R1 st1 p1 p2 p3 p4 I2 rv p5 us ws rfl hl⟩)
  (fun {M e} h => by obtain ⟨p, xs, kws, q, rfl, _⟩ := mat_cal h; rfl) rfl
end
end Nb
end
section
set_option Elab.async false
set_option linter.all false
set_option maxRecDepth 100000
set_option maxHeartbeats 4000000
/-! NbM: targets, iterators -/
namespace Nb
open PySem PySem.Spec PyProof.Rows L2

/-! ### targets -/
section
variable {K : PySem.W.Frag} {EX : EXT} {F : Hp} {R : List Addr} {H : Hp} {env : Enw} {σ : L2.St}
/-- a slot gets a value -/
theorem EnvOk.va {i : Nat} {d : D} {v : V} (h : EnvOk K EX F R H env σ) (r : Rel K F R d v) : EnvOk K EX F R H (env.set i (.va d)) (σ.set i (some v)) where
  len := by rw [List.length_set, List.length_set]; exact h.len
  sl := fun j s o h1 h2 => by
    by_cases e : i = j
    · subst e
      by_cases hi : i < env.length
      · rw [List.getElem?_set_self hi] at h1
        rw [List.getElem?_set_self (by rw [← h.len]; exact hi)] at h2
        cases h1; cases h2
        exact ⟨v, rfl, r⟩
      · rw [List.getElem?_eq_none (by simpa using hi)] at h1; cases h1
    · rw [List.getElem?_set_ne e] at h1 h2
      exact h.sl j s o h1 h2
  sep := fun a b x d' e' h1 h2 h3 h4 => by
    by_cases ea : i = a
    · subst ea
      by_cases hi : i < env.length
      · rw [List.getElem?_set_self hi] at h1; cases h1
      · rw [List.getElem?_eq_none (by simpa using hi)] at h1; cases h1
    · by_cases eb : i = b
      · subst eb
        by_cases hi : i < env.length
        · rw [List.getElem?_set_self hi] at h2; cases h2
        · rw [List.getElem?_eq_none (by simpa using hi)] at h2; cases h2
      · rw [List.getElem?_set_ne ea] at h1 h3
        rw [List.getElem?_set_ne eb] at h2 h4
        exact h.sep a b x d' e' h1 h2 h3 h4
theorem wipe_set {i : Nat} {v : V} : ∀ {vs : List Nat} {σ : L2.St}, i ∈ vs → wipe (σ.set i (some v)) vs = wipe σ vs
  | w :: vs, σ, h => by
    unfold wipe
    by_cases e : i ∈ vs
    · rw [wipe_set e]
    · have e2 : i = w := by
        rcases List.mem_cons.mp h with h | h
        · exact h
        · exact absurd h e
      subst e2
      have key : ∀ {vs : List Nat} {σ : L2.St}, i ∉ vs → wipe (σ.set i (some v)) vs = (wipe σ vs).set i (some v) := by
        intro vs
        induction vs with
        | nil => intro σ _; rfl
        | cons u vs ih =>
          intro σ hn
          have h1 : i ≠ u := fun e => hn (by rw [e]; exact List.mem_cons_self ..)
          have h2 : i ∉ vs := fun e => hn (List.mem_cons_of_mem _ e)
          unfold wipe
          rw [ih h2, List.set_comm _ _ h1]
      rw [key e, List.set_set]
/-- the objects that only slots know stay where they are -/
def KeepOw (env : Enw) (σ : L2.St) (env' : Enw) (σ' : L2.St) : Prop := ∀ (j : Nat) (d : D), env'[j]? = some (.ow d) → σ'[j]? = σ[j]? ∧ env[j]? = some (.ow d)
theorem KeepOw.set {env : Enw} {σ : L2.St} {i : Nat} {d : D} {o : Option V} : KeepOw env σ (env.set i (.va d)) (σ.set i o) := fun j e h => by
  by_cases hi : i = j
  · subst hi
    by_cases hl : i < env.length
    · rw [List.getElem?_set_self hl] at h; cases h
    · rw [List.getElem?_eq_none (by simpa using hl)] at h; cases h
  · rw [List.getElem?_set_ne hi] at h
    exact ⟨by rw [List.getElem?_set_ne hi], h⟩
theorem KeepOw.trans {e1 e2 e3 : Enw} {s1 s2 s3 : L2.St} (a : KeepOw e1 s1 e2 s2) (b : KeepOw e2 s2 e3 s3) : KeepOw e1 s1 e3 s3 := fun j d h => by
  obtain ⟨h1, h2⟩ := b j d h
  obtain ⟨h3, h4⟩ := a j d h2
  exact ⟨h1.trans h3, h4⟩
/-- what a target does -/
def gD (K : PySem.W.Frag) (EX : EXT) (t : Tg) : TG := fun v σ H Q => ∃ F R st env d env', StOk K F R H st ∧ EnvOk K EX F R H env σ ∧ Rel K F R d v ∧ bindT t d env = some env' ∧
  ∀ σ', EnvOk K EX F R H env' σ' → (∀ vs, tgIn vs t = true → wipe σ' vs = wipe σ vs) → KeepOw env σ env' σ' → Q σ' H
def gsD (K : PySem.W.Frag) (EX : EXT) (is : List Nat) : TGs := fun vs σ H Q => ∃ F R env ds env', EnvOk K EX F R H env σ ∧ Rels K F R ds vs ∧ bindS is ds env = some env' ∧
  ∀ σ', EnvOk K EX F R H env' σ' → (∀ ws, is.all ws.contains = true → wipe σ' ws = wipe σ ws) → KeepOw env σ env' σ' → Q σ' H
end
section
variable {T : Tb} {cl : Cl} {X : Cx} {M : Mc} {EX : EXT} {W : WX}
theorem pg_imp {e : Expr} {t t' : TG} (h : PG X e t) (i : ∀ v σ H Q, t' v σ H Q → t v σ H Q) : PG X e t' := ⟨fun pins s σ H v u Q I r q => h.run pins s σ H v u Q I r (i v σ H Q q)⟩
theorem pgs_imp {e : List Expr} {t t' : TGs} (h : PGs X e t) (i : ∀ v σ H Q, t' v σ H Q → t v σ H Q) : PGs X e t' := ⟨fun pins s σ H v u Q I r q => h.run pins s σ H v u Q I r (i v σ H Q q)⟩
theorem tg_loc (c : Ctx T cl X M EX W) {x : Str} (h : tgB M x = true) : Loc X.env.scope x ∧ (X.fn x = true ∨ X.env.scope.names.lookup x = some .local) := by
  rw [c.sc]
  unfold tgB at h
  rcases Bool.or_eq_true_iff.mp h with h | h
  · have e : M.sc.names.lookup x = some .local := by
      unfold lclB at h
      split at h
      · assumption
      · cases h
    exact ⟨.inl e, .inr e⟩
  · obtain ⟨h1, h2⟩ := b2 h
    refine ⟨?_, .inl (c.fn x h2)⟩
    unfold locB at h1
    split at h1
    · exact .inl (by assumption)
    · exact .inr (by assumption)
    · cases h1
theorem pg_nm (c : Ctx T cl X M EX W) {i : Nat} {x : Str} {p : Pos} (h1 : slotB M.N i x = true) (h2 : tgB M x = true) : PG X (.Name x p) (gName i) :=
  pg_name c.nd (c.slot h1) (tg_loc c h2).1 (tg_loc c h2).2
theorem strTs_ok (c : Ctx T cl X M EX W) : ∀ {is : List Nat} {es : List Expr}, strTs M is es = true → PGs X es (gsD X.K EX is) ∧ (assignEach es X.env).length = is.length ∧ (assignEach es X.env).findIdx? (·.1) = none
  | [], [], _ => ⟨pgs_imp pgs_nil fun vs σ H Q ⟨F, R, env, ds, env', eo, r, b, k⟩ => by
      cases ds with
      | cons d ds => cases b
      | nil =>
        cases b
        unfold Rels at r
        exact ⟨r, k σ eo (fun _ _ => rfl) fun j d h => ⟨rfl, h⟩⟩, rfl, rfl⟩
  | [], _ :: _, h => by unfold strTs at h; exact ff h
  | _ :: _, [], h => by unfold strTs at h; exact ff h
  | i :: is, e :: es, h => by
    cases e <;> first | (unfold strTs at h; exact ff h) | skip
    unfold strTs at h
    obtain ⟨h1, h3⟩ := b2 h
    obtain ⟨h1, h2⟩ := b2 h1
    obtain ⟨q1, q2, q3⟩ := strTs_ok c h3
    refine ⟨pgs_imp (pgs_cons (pg_nm c h1 h2) q1) fun vs σ H Q ⟨F, R, env, ds, env', eo, r, b, k⟩ => ?_, ?_, ?_⟩
    · cases ds with
      | nil => cases b
      | cons d ds =>
        unfold Rels at r
        obtain ⟨v, ws, rfl, r1, r2⟩ := r
        refine ⟨v, ws, rfl, F, R, _, ds, env', eo.va r1, r2, b, fun σ' eo' hw hk => k σ' eo' (fun ws hws => ?_) (KeepOw.set.trans hk)⟩
        rw [List.all_cons] at hws
        obtain ⟨w1, w2⟩ := b2 hws
        rw [hw ws w2]
        exact wipe_set (by simpa using w1)
    · show (assignEach es X.env).length + 1 = is.length + 1
      rw [q2]
    · show List.findIdx? (·.1) ((false, assign _ X.env) :: assignEach es X.env) = none
      rw [List.findIdx?_cons, q3]; rfl
theorem bindS_len : ∀ {is : List Nat} {ds : List D} {env env' : Enw}, bindS is ds env = some env' → ds.length = is.length
  | [], [], _, _, _ => rfl
  | [], _ :: _, _, _, h => by cases h
  | _ :: _, [], _, _, h => by cases h
  | i :: is, d :: ds, _, _, h => by
    show ds.length + 1 = is.length + 1
    rw [bindS_len (is := is) h]
theorem pg_D (c : Ctx T cl X M EX W) {t : Tg} {e : Expr} (h : matT M t e = true) : PG X e (gD X.K EX t) := by
  cases t with
  | nm i =>
    cases e <;> first | exact ff h | skip
    obtain ⟨h1, h2⟩ := b2 h
    exact pg_imp (pg_nm c h1 h2) fun v σ H Q ⟨F, R, st, env, d, env', so, eo, r, b, k⟩ => by
      cases b
      exact k _ (eo.va r) (fun vs hv => wipe_set (by
        unfold tgIn at hv
        simpa using hv)) KeepOw.set
  | tp is =>
    cases e <;> first | exact ff h | skip
    obtain ⟨h1, h2⟩ := b2 h
    obtain ⟨q1, q2, q3⟩ := strTs_ok c h2
    exact pg_imp (pg_tup (c.calm h1) q1 q2 q3) fun v σ H Q ⟨F, R, st, env, d, env', so, eo, r, b, k⟩ => by
      unfold bindT at b
      cases e1 : tupD d with
      | none => simp only [e1] at b; cases b
      | some ds =>
        simp only [e1] at b
        obtain ⟨a, xs, rfl, k1, k2⟩ := tupD_F (H := H) (.inl r) e1
        have hl := bindS_len b
        exact ⟨a, xs, rfl, sqT_same so.same k1, by rw [← k2.len, hl], F, R, env, ds, env', eo, k2, b, k⟩

/-! ### iterators -/
def reach (m : Md) (F0 : Hp) (R0 : List Addr) (H0 : Hp) (F : Hp) (R : List Addr) (H : Hp) : Prop := match m with
  | .s => Same F0 F ∧ R0 <+: R
  | _ => Grow F0 R0 H0 F R H
/-- the iterator gives the items ds, from any state that can be reached -/
structure Walk (K : PySem.W.Frag) (P : Hp → List Addr → Hp → Prop) (J : L2.It) (ds : List D) : Prop where
  go : ∀ F R H st i d, P F R H → StOk K F R H st → ds[i]? = some d → J.go i H ∧ ∀ x H', J.yld i H x H' → ∃ F', Grow F R H F' R H' ∧ StOk K F' R H' st ∧ Rel K F' R d x
  stop : ∀ F R H st, P F R H → StOk K F R H st → J.stop ds.length H
def tI (m : Md) (K : PySem.W.Frag) (EX : EXT) (W : WX) (f : Enw → Sto → Res (List D)) : TI := fun σ H Rk =>
  ∃ F R env st, StOk K F R H st ∧ EnvOk K EX F R H env σ ∧ After K W σ F R H (f env st) fun ds _ F' R' H' => ∀ J, Walk K (reach m F' R' H') J ds → Rk J H'
variable {K : PySem.W.Frag}
theorem reach_tup {m : Md} {F R H F' R' H'} {st : Sto} {d : D} {v : V} {ds : List D} (p : reach m F R H F' R' H') (so : StOk K F' R' H' st) (r : RelT K F R H d v) (h : tupD d = some ds) : ∃ a vs, v = .ref a ∧ SqT K H' a vs ∧ Rels K F' R' ds vs := by
  obtain ⟨a, vs, e, h1, h2⟩ := tupD_F r h
  have q : Same F F' ∧ R <+: R' := by
    cases m with
    | s => exact p
    | t => exact ⟨p.sameF, p.pre⟩
    | f => exact ⟨p.sameF, p.pre⟩
  exact ⟨a, vs, e, sqT_same (q.1.trans so.same) h1, h2.mono q.1 q.2⟩
/-- a list that stays -/
theorem reach_lst {m : Md} {F R H F' R' H'} {st : Sto} {v : V} {ds : List D} (p : reach m F R H F' R' H') (so : StOk K F' R' H' st) (r : RR m K H F R H (.lst ds) v) (hm : m ≠ .f) : ∃ a vs, v = .ref a ∧ H' a = some (.lst vs) ∧ Rels K F' R' ds vs := by
  cases m with
  | s =>
    have r : Rel K F R (.lst ds) v := r
    have r2 := r.mono p.1 p.2
    unfold Rel at r2
    obtain ⟨a, vs, e, h1, h2⟩ := r2
    exact ⟨a, vs, e, so.same _ _ h1, h2⟩
  | t => exact (RelT.grow r p).lst so.same
  | f => exact absurd rfl hm
theorem walk_lst {m : Md} {F R H} {v : V} {ds : List D} (r : RR m K H F R H (.lst ds) v) (hm : m ≠ .f) (so : ∃ st, StOk K F R H st) : ∃ a, v = .ref a ∧ (∃ xs, SqL K H a xs) ∧ Walk K (reach m F R H) (Itl K a) ds := by
  obtain ⟨st, so⟩ := so
  have p0 : reach m F R H F R H := by
    cases m with
    | s => exact ⟨Same.refl _, List.prefix_rfl⟩
    | t => exact .refl
    | f => exact .refl
  obtain ⟨a, vs, e, h1, h2⟩ := reach_lst p0 so r hm
  refine ⟨a, e, ⟨vs, SqL.of h1⟩, fun F' R' H' st' i d p so' hd => ?_, fun F' R' H' st' p so' => ?_⟩
  · obtain ⟨a', ws, e', k1, k2⟩ := reach_lst p so' r hm
    subst e
    cases e'
    obtain ⟨x, q1, q2⟩ := k2.get hd
    refine ⟨⟨ws, x, SqL.of k1, q1⟩, fun y H2 ⟨e1, hy⟩ => ?_⟩
    subst e1
    have := hy ws (SqL.of k1)
    rw [q1] at this
    cases this
    exact ⟨F', .refl, so', q2⟩
  · obtain ⟨a', ws, e', k1, k2⟩ := reach_lst p so' r hm
    subst e
    cases e'
    exact ⟨ws, SqL.of k1, by rw [k2.len]; exact Nat.le_refl _⟩
theorem walk_tup {m : Md} {F R H} {v : V} {d : D} {ds : List D} (r : RelT K F R H d v) (h : tupD d = some ds) (so : ∃ st, StOk K F R H st) : ∃ a, v = .ref a ∧ (∃ xs, SqT K H a xs) ∧ Walk K (reach m F R H) (Itt K a) ds := by
  obtain ⟨st, so⟩ := so
  have p0 : reach m F R H F R H := by
    cases m with
    | s => exact ⟨Same.refl _, List.prefix_rfl⟩
    | t => exact .refl
    | f => exact .refl
  obtain ⟨a, vs, e, h1, h2⟩ := reach_tup p0 so r h
  refine ⟨a, e, ⟨vs, h1⟩, fun F' R' H' st' i d' p so' hd => ?_, fun F' R' H' st' p so' => ?_⟩
  · obtain ⟨a', ws, e', k1, k2⟩ := reach_tup p so' r h
    subst e
    cases e'
    obtain ⟨x, q1, q2⟩ := k2.get hd
    refine ⟨⟨ws, x, k1, q1⟩, fun y H2 ⟨e1, hy⟩ => ?_⟩
    subst e1
    have := hy ws k1
    rw [q1] at this
    cases this
    exact ⟨F', .refl, so', q2⟩
  · obtain ⟨a', ws, e', k1, k2⟩ := reach_tup p so' r h
    subst e
    cases e'
    exact ⟨ws, k1, by rw [k2.len]; exact Nat.le_refl _⟩
theorem walk_str {P : Hp → List Addr → Hp → Prop} {z : Str} : Walk K P (Its z) (strItems z) where
  go := fun F R H st i d p so hd => by
    have hlen : (strItems z).length = z.cps.size := by simp [strItems]
    have hi : i < z.cps.size := by rw [← hlen]; exact (List.getElem?_eq_some_iff.mp hd).1
    refine ⟨hi, fun x H' ⟨e1, c, hc, e2⟩ => ?_⟩
    subst e1 e2
    refine ⟨F, .refl, so, ?_⟩
    have : d = .str ⟨#[c]⟩ := by
      unfold strItems at hd
      rw [List.getElem?_map] at hd
      have hc' : z.cps.toList[i]? = some c := by simpa using hc
      rw [hc'] at hd
      cases hd; rfl
    subst this
    unfold Rel; rfl
  stop := fun F R H st p so => by
    have hlen : (strItems z).length = z.cps.size := by simp [strItems]
    show z.cps.size ≤ (strItems z).length
    omega
theorem walk_rng {P : Hp → List Addr → Hp → Prop} {lo : Int} {n : Nat} : Walk K P (Itr lo n) ((List.range n).map fun (i : Nat) => D.int (lo + (i : Int))) where
  go := fun F R H st i d p so hd => by
    rw [List.getElem?_map] at hd
    obtain ⟨j, h1, h2⟩ := Option.map_eq_some_iff.mp hd
    have hi : i < n := by
      have := (List.getElem?_eq_some_iff.mp h1).1
      simpa using this
    rw [List.getElem?_range hi] at h1
    cases h1
    refine ⟨hi, fun x H' ⟨e1, e2⟩ => ?_⟩
    subst e1 e2 h2
    exact ⟨F, .refl, so, by unfold Rel; rfl⟩
  stop := fun F R H st p so => by
    show n ≤ _
    simp
theorem walk_rngC {P : Hp → List Addr → Hp → Prop} {lo c : Int} {n : Nat} : Walk K P (Itc lo c n) ((List.range n).map fun (i : Nat) => D.int (lo + (i : Int) * c)) where
  go := fun F R H st i d p so hd => by
    rw [List.getElem?_map] at hd
    obtain ⟨j, h1, h2⟩ := Option.map_eq_some_iff.mp hd
    have hi : i < n := by
      have := (List.getElem?_eq_some_iff.mp h1).1
      simpa using this
    rw [List.getElem?_range hi] at h1
    cases h1
    refine ⟨hi, fun x H' ⟨e1, e2⟩ => ?_⟩
    subst e1 e2 h2
    exact ⟨F, .refl, so, by unfold Rel; rfl⟩
  stop := fun F R H st p so => by
    show n ≤ _
    simp
end
end Nb
end
section
set_option Elab.async false
set_option linter.all false
set_option maxRecDepth 100000
set_option maxHeartbeats 4000000
/-! NbN: enumerate of a tuple; the iterators of the small language -/
namespace Nb
open PySem PySem.Spec PyProof.Rows L2
section
open AutoSeq1 (wpAny_loadPart')
theorem enum_newT (l : Addr) (items : Array Value) (n : Nat) (dct : Option Addr) (sl : Array (Option Value)) :
    Meets (Builtin.«enumerate.__new__» ⟨[.type "enumerate", .ref l], []⟩) (fun _ R s => s.heap.get? l = some { cls := .type "tuple", dict := dct, data := .seq items n, slots := sl } ∧
      R (.ok (.ret (.ref (s.heap.push { cls := .type "tuple_iterator", data := .fields #[.ref l, .int 0 0] }).objs.size)))
        { s with heap := (s.heap.push { cls := .type "tuple_iterator", data := .fields #[.ref l, .int 0 0] }).push { cls := .type "enumerate", data := .fields #[.none, .bool false, .ref s.heap.objs.size, rawInt 0, .none, .none] } }) :=
  .of_wp fun prog w A R s h => by
    obtain ⟨hp, g, d, tk, os⟩ := s
    obtain ⟨hl, h⟩ := h
    have hsub := sub_enumerate
    have hL : Heap.IsTuple (Shared.heap ⟨hp, g, d, tk, os⟩) l items := ⟨_, hl, rfl, n, rfl⟩
    wp_walk using wpAny_loadPart' hl
    refine wpAny_stack_any fun st => wpAny_pure ?_
    split
    · rename_i c _ _ _ _ _
      cases (c == Value.type "enumerate")
      · wp_walk using wpAny_loadPart' hl, wpAny_pyIter_tuple hL
        exact ⟨_, rfl, h⟩
      · wp_walk using wpAny_loadPart' hl, wpAny_pyIter_tuple hL
        exact ⟨_, rfl, h⟩
    · wp_walk using wpAny_loadPart' hl, wpAny_pyIter_tuple hL
      exact ⟨_, rfl, h⟩
theorem enum_callT {prog : Program} {w : World} {A : Around} {E : Value → Shared → Prop} {s : Shared} {l : Addr} {items : Array Value} {Q : Value → Shared → Prop} (hL : s.heap.IsTuple l items)
    (h : ∀ h', IsEnum h' (s.heap.objs.size + 1) s.heap.objs.size 0 .none → h'.IsTupleIter s.heap.objs.size l 0 → h'.objs.size = s.heap.objs.size + 2 →
      (∀ b o, s.heap.get? b = some o → h'.get? b = some o) → Q (.ref (s.heap.objs.size + 1)) { s with heap := h' }) :
    wpAny (model prog w) A (call (.type "enumerate") [.ref l]) Q E s := by
  obtain ⟨⟨c, dct, dt, sl⟩, hl, hc, n, hd⟩ := hL
  replace hc : c = .type "tuple" := hc
  replace hd : dt = .seq items n := hd
  subst hc hd
  refine callType_new F.called_enumerate (by decide) (F.typeCall_enumerate_1 _) (F.newCall_enumerate_1 _) (fun obj => F.args_object_init_2 obj _) F.entry_enumerate_new
    (enum_newT l items n dct sl) ⟨hl, ?_⟩
  have hz : (s.heap.push { cls := .type "tuple_iterator", data := .fields #[.ref l, .int 0 0] }).objs.size = s.heap.objs.size + 1 := Heap.size_push ..
  show _ ∧ _
  rw [hz]
  have he : IsEnum ((s.heap.push { cls := .type "tuple_iterator", data := .fields #[.ref l, .int 0 0] }).push
      { cls := .type "enumerate", data := .fields #[.none, .bool false, .ref s.heap.objs.size, rawInt 0, .none, .none] }) (s.heap.objs.size + 1) s.heap.objs.size 0 .none := by
    have := Heap.get?_push_size (s.heap.push { cls := .type "tuple_iterator", data := .fields #[.ref l, .int 0 0] })
      (o := { cls := .type "enumerate", data := .fields #[.none, .bool false, .ref s.heap.objs.size, rawInt 0, .none, .none] }) rfl
    rw [hz] at this
    exact this
  exact ⟨⟨_, he, rfl⟩, h _ he ⟨_, Heap.get?_push_of_some _ (Heap.get?_push_size _ rfl), rfl, rfl⟩ (by rw [Heap.size_push, hz]) fun b o x => Heap.get?_push_of_some _ (Heap.get?_push_of_some _ x)⟩
end
/-- the tuple at a, each item in a new pair -/
def IteT (K : PySem.W.Frag) (a : Addr) : L2.It :=
  ⟨fun i H => ∃ (xs : List V) (x : V), SqT K H a xs ∧ xs[i]? = some x, fun i H v H' => ∃ T x, v = .ref T ∧ H T = none ∧ H' = upd H T (.tup [.int (i : Nat), x]) ∧ ∀ xs, SqT K H a xs → xs[i]? = some x, fun i H => ∃ xs : List V, SqT K H a xs ∧ xs.length = i⟩
theorem turn_enumT {P : Program} {w : World} {K : PySem.W.Frag} {elts : List Expr} {kk : Nat} {tpos : Pos} (a e it : Addr) :
    Turn P w K (.Tuple elts kk tpos) (IteT K a) [e, it] e (fun i h => (∃ old, IsEnum h e it ((i : Nat) : Int) old) ∧ h.IsTupleIter it a i ∧ e ≠ it ∧ a ≠ it ∧ a ≠ e) where
  mem := by simp
  obj := fun i h st b hb => by
    obtain ⟨⟨old, he⟩, ⟨o, ho, hc, hd⟩, _⟩ := st
    have e' : b = e ∨ b = it := by simpa using hb
    rcases e' with z | z
    · rw [z]; exact ⟨_, he, fun v q => nomatch q⟩
    · rw [z]; exact ⟨o, ho, fun v q => by rw [hd] at q; cases q⟩
  keep := fun i h h' st k => let ⟨⟨old, he⟩, hi, hne, h2⟩ := st; ⟨⟨old, k e (by simp) _ he⟩, hi.at fun o q => k it (by simp) o q, hne, h2⟩
  item := by
    intro X hP hw hK hc i pins s σ H E I hf st hg
    subst hP hw hK
    obtain ⟨⟨old, he⟩, hit, hne, hai, hae⟩ := st
    obtain ⟨xs, x, hq, hx⟩ := hg
    obtain ⟨its, rv, p, hz⟩ := I.tuple hq
    obtain ⟨u, hu, ru⟩ := rv.get hx
    have hel : e < s.heap.objs.size := Heap.lt_size he
    have hil : it < s.heap.objs.size := by obtain ⟨_, q, _⟩ := hit; exact Heap.lt_size q
    have hlt : i < its.toArray.size := by
      rw [List.size_toArray]
      exact (List.getElem?_eq_some_iff.mp hu).1
    refine wpAny_pyNext_enum_itemD (Draws.tuple (A := X.A.in1) (I.ok.hd hc) it a hai its.toArray) he ⟨hit, p⟩ hlt hne (by simp [hne]; exact fun z => hae z.symm) fun u' h' tk hu' ho hst hT hsz hk => ?_
    obtain ⟨hit', _⟩ := hst
    have eu : u' = u := by
      have : its[i]? = some u' := by simpa using hu'
      rw [hu] at this
      cases this; rfl
    subst eu
    refine ⟨_, rfl, wpAny_letOwnedTupleGo_enum (s := { s with heap := h', toks := tk + 1 }) ho fun h'' he' sb => ?_⟩
    have hT2 : h''.get? s.heap.objs.size = some { cls := .type "tuple", data := .seq #[.int i tk, u'] } := (sb.2 _ (Nat.ne_of_gt hel)).trans hT
    have new : ObjOk X.prog X.w (upd H s.heap.objs.size (.tup [.int (i : Nat), x])) h'' s.heap.objs.size (.tup [.int (i : Nat), x]) :=
      ⟨by show 2 ≤ sizeLine; decide, [.int i tk, u'], .cons ⟨_, rfl⟩ (.cons ru .nil), ⟨_, hT2, rfl, _, rfl⟩⟩
    have I1 : Inv X pins σ (upd H s.heap.objs.size (.tup [.int (i : Nat), x])) { s with heap := h'', toks := tk + 1 } :=
      I.turnedNew (ch := [e, it]) (fun b ob hb q => (sb.2 b (fun z => hb (by simp [z]))).trans (hk b ob (fun z => hb (by simp [z])) (fun z => hb (by simp [z])) q)) hf (Nat.le_refl _) new
    refine ⟨.ref s.heap.objs.size, _, I1, rfl, ⟨_, x, rfl, I.hok.fresh (Nat.le_refl _), rfl, fun ys hy => by rw [I.tuple_inj hy hq]; exact hx⟩, ⟨⟨u', ?_⟩, hit'.at fun o q => (sb.2 it (Ne.symm hne)).trans q, hne, hai, hae⟩, fun b hb => ?_⟩
    · have e1 : ((i + 1 : Nat) : Int) = (i : Int) + 1 := by omega
      rw [e1]
      exact he'
    · have hb' : b < s.heap.objs.size := by
        have e' : b = e ∨ b = it := by simpa using hb
        rcases e' with z | z
        · rw [z]; exact hel
        · rw [z]; exact hil
      rw [upd_ne (Nat.ne_of_lt hb')]
      exact (hf b hb).1
  done := by
    intro X hP hw hK hc i pins s σ H E I hf st hg
    subst hP hw hK
    obtain ⟨⟨old, he⟩, hit, hne, hai, hae⟩ := st
    obtain ⟨xs, hq, hx⟩ := hg
    obtain ⟨its, rv, p, hz⟩ := I.tuple hq
    obtain ⟨f0, f1, f2, f3, f4, f5⟩ := hf it (by simp)
    have hl := rv.length
    have hi : i = its.toArray.size := by rw [List.size_toArray]; omega
    subst hi
    exact wpAny_pyNext_enum_endD (Draws.tuple (A := X.A.in1) (I.ok.hd hc) it a hai its.toArray) he ⟨hit, p⟩ fun h' eb => ⟨rfl, I.turned (t' := s.toks) (fun b o hb q => eb b o hb q) f0 f1 f3 f4 f5⟩
  self := fun A i s Q E st h => let ⟨⟨_, he⟩, _⟩ := st; wpAny_pyIter_enum he h
def iEnumA (K : PySem.W.Frag) (ta : TA) : TI := fun σ H R => ta σ H fun vs H1 => ∃ a, vs = [V.ref a] ∧ ((∃ xs, SqL K H1 a xs ∧ R (Ite K a) H1) ∨ ∃ xs, SqT K H1 a xs ∧ R (IteT K a) H1)
theorem pi_enumA {X : Cx} {e : Expr} {ta : TA} {p pos tpos : Pos} {elts : List Expr} {kk : Nat} (hg : Gl X "enumerate") (hm : X.mg "enumerate" = none) (ha : PA X [e] ta) (hs : starEach [e] X.env = [(false, eval e X.env)]) :
    PI X (.Tuple elts kk tpos) (.Call (.Name "enumerate" p) [e] [] pos) (iEnumA X.K ta) := by
  refine ⟨fun pins s σ H R I h => ?_⟩
  refine Call_ (ld_blt I hg hm boot_enumerate (PyProof.Rows.callWith_type1 (thn (ha.run pos pins s σ H _ I h) fun us s1 ⟨vs, H1, I1, r1, q1⟩ => ?_) hs rfl))
  obtain ⟨a, ex, q⟩ := q1
  subst ex
  cases r1 with
  | cons r rr =>
    cases rr
    cases r
    have fresh2 : ∀ b, b ∈ [s1.heap.objs.size + 1, s1.heap.objs.size] → FpOk X pins H1 b := fun b hb => by
      have e' : b = s1.heap.objs.size + 1 ∨ b = s1.heap.objs.size := by simpa using hb
      have hle : s1.heap.objs.size ≤ b := by
        rcases e' with z | z
        · rw [z]; exact Nat.le_add_right _ _
        · rw [z]; exact Nat.le_refl _
      exact I1.fpOk hle (I1.hok.fresh hle)
    rcases q with ⟨xs, hq, q⟩ | ⟨xs, hq, q⟩
    · obtain ⟨its, rv, p', hz⟩ := I1.list hq
      refine call_enumerate_list p'.isList fun h' he hit hsz hk => wpAny_pyIter_enum he ?_
      have I2 : Inv X pins σ H1 { s1 with heap := h' } := I1.kept (t' := s1.toks) hk
      exact ⟨s1.heap.objs.size + 1, [s1.heap.objs.size + 1, s1.heap.objs.size], _, _, H1, rfl, I2, turn_enum a (s1.heap.objs.size + 1) s1.heap.objs.size, ⟨⟨.none, he⟩, hit, Nat.succ_ne_self _⟩, fresh2, q⟩
    · obtain ⟨its, rv, p', hz⟩ := I1.tuple hq
      have hal : a < s1.heap.objs.size := by obtain ⟨o, ho, _⟩ := p'; exact Heap.lt_size ho
      refine enum_callT p' fun h' he hit hsz hk => wpAny_pyIter_enum he ?_
      have I2 : Inv X pins σ H1 { s1 with heap := h' } := I1.kept (t' := s1.toks) hk
      exact ⟨s1.heap.objs.size + 1, [s1.heap.objs.size + 1, s1.heap.objs.size], _, _, H1, rfl, I2, turn_enumT a (s1.heap.objs.size + 1) s1.heap.objs.size, ⟨⟨.none, he⟩, hit, Nat.succ_ne_self _, Nat.ne_of_lt hal, Nat.ne_of_lt (Nat.lt_succ_of_lt hal)⟩, fresh2, q⟩
section
variable {K : PySem.W.Frag}
/-- a new pair -/
theorem new_pair {F : Hp} {R : List Addr} {H : Hp} {st : Sto} {T : Addr} {d e : D} {v w : V} (so : StOk K F R H st) (hT : H T = none) (r1 : Rel K F R d v) (r2 : Rel K F R e w) :
    ∃ F', Grow F R H F' R (upd H T (.tup [v, w])) ∧ StOk K F' R (upd H T (.tup [v, w])) st ∧ Rel K F' R (.tup [d, e]) (.ref T) := by
  have g : Grow F R H (upd F T (.tup [v, w])) R (upd H T (.tup [v, w])) := .new so.same hT
  refine ⟨_, g, so.new hT, ?_⟩
  unfold Rel
  exact ⟨T, [v, w], rfl, upd_same, Rels.cons (r1.mono g.sameF List.prefix_rfl) (Rels.one (r2.mono g.sameF List.prefix_rfl))⟩
theorem enu_at {ds : List D} {i : Nat} {d : D} (h : (enuD ds)[i]? = some d) : ∃ e, ds[i]? = some e ∧ d = .tup [.int (i : Nat), e] := by
  unfold enuD at h
  rw [List.getElem?_map] at h
  obtain ⟨p, h1, h2⟩ := Option.map_eq_some_iff.mp h
  rw [List.getElem?_zipIdx] at h1
  obtain ⟨e, h3, h4⟩ := Option.map_eq_some_iff.mp h1
  subst h4
  refine ⟨e, h3, ?_⟩
  rw [← h2]
  simp
theorem zip_at {xs ys : List D} {i : Nat} {d : D} (h : (zipD xs ys)[i]? = some d) : ∃ x y, xs[i]? = some x ∧ ys[i]? = some y ∧ d = .tup [x, y] := by
  unfold zipD at h
  rw [List.getElem?_map] at h
  obtain ⟨p, h1, h2⟩ := Option.map_eq_some_iff.mp h
  rw [List.getElem?_zip_eq_some] at h1
  exact ⟨p.1, p.2, h1.1, h1.2, h2.symm⟩
theorem walk_enL {m : Md} {F R H} {v : V} {ds : List D} (r : RR m K H F R H (.lst ds) v) (hm : m ≠ .f) (so : ∃ st, StOk K F R H st) : ∃ a, v = .ref a ∧ (∃ xs, SqL K H a xs) ∧ Walk K (reach m F R H) (Ite K a) (enuD ds) := by
  obtain ⟨a, e, h1, w⟩ := walk_lst r hm so
  have hl : (enuD ds).length = ds.length := by simp [enuD]
  refine ⟨a, e, h1, fun F' R' H' st' i d p so' hd => ?_, fun F' R' H' st' p so' => ?_⟩
  · obtain ⟨x, hx, rfl⟩ := enu_at hd
    obtain ⟨⟨xs, y, q1, q2⟩, q3⟩ := w.go F' R' H' st' i x p so' hx
    refine ⟨⟨xs, y, q1, q2⟩, fun z H2 ⟨T, u, e1, e2, e3, e4⟩ => ?_⟩
    subst e1 e3
    obtain ⟨F2, g2, so2, r2⟩ := q3 u H' ⟨rfl, e4⟩
    obtain ⟨F3, g3, so3, r3⟩ := new_pair so2 e2 (d := .int (i : Nat)) (by unfold Rel; rfl) r2
    exact ⟨F3, g2.trans g3, so3, r3⟩
  · rw [hl]; exact w.stop F' R' H' st' p so'
theorem walk_enT {m : Md} {F R H} {v : V} {d : D} {ds : List D} (r : RelT K F R H d v) (h : tupD d = some ds) (so : ∃ st, StOk K F R H st) : ∃ a, v = .ref a ∧ (∃ xs, SqT K H a xs) ∧ Walk K (reach m F R H) (IteT K a) (enuD ds) := by
  have hl : (enuD ds).length = ds.length := by simp [enuD]
  obtain ⟨a, e, h1, w⟩ := walk_tup (m := m) r h so
  refine ⟨a, e, h1, fun F' R' H' st' i d' p so' hd => ?_, fun F' R' H' st' p so' => ?_⟩
  · obtain ⟨x, hx, rfl⟩ := enu_at hd
    obtain ⟨⟨xs, y, q1, q2⟩, q3⟩ := w.go F' R' H' st' i x p so' hx
    refine ⟨⟨xs, y, q1, q2⟩, fun z H2 ⟨T, u, e1, e2, e3, e4⟩ => ?_⟩
    subst e1 e3
    obtain ⟨F2, g2, so2, r2⟩ := q3 u H' ⟨rfl, e4⟩
    obtain ⟨F3, g3, so3, r3⟩ := new_pair so2 e2 (d := .int (i : Nat)) (by unfold Rel; rfl) r2
    exact ⟨F3, g2.trans g3, so3, r3⟩
  · rw [hl]
    obtain ⟨a', vs, e', k1, k2⟩ := reach_tup p so' r h
    subst e
    cases e'
    exact ⟨vs, k1, by rw [k2.len]⟩
theorem walk_zipL {m : Md} {F R H} {v w : V} {ds es : List D} (r : RR m K H F R H (.lst ds) v) (r2 : RR m K H F R H (.lst es) w) (hm : m ≠ .f) (so : ∃ st, StOk K F R H st) :
    ∃ a b xs ys, v = .ref a ∧ w = .ref b ∧ SqL K H a xs ∧ SqL K H b ys ∧ Walk K (reach m F R H) (Itz K a b) (zipD ds es) := by
  obtain ⟨st, so⟩ := so
  have p0 : reach m F R H F R H := by
    cases m with
    | s => exact ⟨Same.refl _, List.prefix_rfl⟩
    | t => exact .refl
    | f => exact .refl
  obtain ⟨a, vs, e, h1, h2⟩ := reach_lst p0 so r hm
  obtain ⟨b, ws, e', h3, h4⟩ := reach_lst p0 so r2 hm
  subst e e'
  refine ⟨a, b, vs, ws, rfl, rfl, SqL.of h1, SqL.of h3, fun F' R' H' st' i d p so' hd => ?_, fun F' R' H' st' p so' => ?_⟩
  · obtain ⟨x, y, hx, hy, rfl⟩ := zip_at hd
    obtain ⟨a', xs, e1, k1, k2⟩ := reach_lst p so' r hm
    obtain ⟨b', ys, e2, k3, k4⟩ := reach_lst p so' r2 hm
    cases e1
    cases e2
    obtain ⟨x', q1, q2⟩ := k2.get hx
    obtain ⟨y', q3, q4⟩ := k4.get hy
    refine ⟨⟨xs, ys, x', y', SqL.of k1, SqL.of k3, q1, q3⟩, fun z H2 ⟨T, u, u', f1, f2, f3, f4, f5⟩ => ?_⟩
    subst f1 f3
    have g1 := f4 xs (SqL.of k1)
    have g2 := f5 ys (SqL.of k3)
    rw [q1] at g1
    rw [q3] at g2
    cases g1
    cases g2
    exact new_pair so' f2 q2 q4
  · obtain ⟨a', xs, e1, k1, k2⟩ := reach_lst p so' r hm
    obtain ⟨b', ys, e2, k3, k4⟩ := reach_lst p so' r2 hm
    cases e1
    cases e2
    refine ⟨xs, ys, SqL.of k1, SqL.of k3, ?_⟩
    have := k2.len
    have := k4.len
    have : (zipD ds es).length = min ds.length es.length := by simp [zipD]
    omega
theorem walk_zipT {m : Md} {F R H} {v w : V} {d e : D} {ds es : List D} (r : RelT K F R H d v) (r2 : RelT K F R H e w) (hd : tupD d = some ds) (he : tupD e = some es) (so : ∃ st, StOk K F R H st) :
    ∃ a b xs ys, v = .ref a ∧ w = .ref b ∧ SqT K H a xs ∧ SqT K H b ys ∧ Walk K (reach m F R H) (RZ.ItzT K a b) (zipD ds es) := by
  obtain ⟨st, so⟩ := so
  have p0 : reach m F R H F R H := by
    cases m with
    | s => exact ⟨Same.refl _, List.prefix_rfl⟩
    | t => exact .refl
    | f => exact .refl
  obtain ⟨a, vs, e1, h1, h2⟩ := reach_tup p0 so r hd
  obtain ⟨b, ws, e2, h3, h4⟩ := reach_tup p0 so r2 he
  subst e1 e2
  refine ⟨a, b, vs, ws, rfl, rfl, h1, h3, fun F' R' H' st' i d p so' hdd => ?_, fun F' R' H' st' p so' => ?_⟩
  · obtain ⟨x, y, hx, hy, rfl⟩ := zip_at hdd
    obtain ⟨a', xs, e1, k1, k2⟩ := reach_tup p so' r hd
    obtain ⟨b', ys, e2, k3, k4⟩ := reach_tup p so' r2 he
    cases e1
    cases e2
    obtain ⟨x', q1, q2⟩ := k2.get hx
    obtain ⟨y', q3, q4⟩ := k4.get hy
    refine ⟨⟨xs, ys, x', y', k1, k3, q1, q3⟩, fun z H2 ⟨T, u, u', f1, f2, f3, f4, f5⟩ => ?_⟩
    subst f1 f3
    have g1 := f4 xs k1
    have g2 := f5 ys k3
    rw [q1] at g1
    rw [q3] at g2
    cases g1
    cases g2
    exact new_pair so' f2 q2 q4
  · obtain ⟨a', xs, e1, k1, k2⟩ := reach_tup p so' r hd
    obtain ⟨b', ys, e2, k3, k4⟩ := reach_tup p so' r2 he
    cases e1
    cases e2
    refine ⟨xs, ys, k1, k3, ?_⟩
    have := k2.len
    have := k4.len
    have : (zipD ds es).length = min ds.length es.length := by simp [zipD]
    omega
end
/-! ### what may stand behind in -/
def gdI : Md → It → Bool
  | .f, _ => false
  | m, .seq a => gd m a
  | _, .rng _ => true
  | m, .zip a b => gd m a && gd m b
  | m, .zips a => gd m a
  | m, .enu a => gd m a
structure SndI (T : Tb) (cl : Cl) (it : It) : Prop where
  i : ∀ {X M EX W}, Ctx T cl X M EX W → ∀ {e tg}, matI M it e tg = true → ∀ m, gdI m it = true → PI X tg e (tI m X.K EX W (semI T cl it))
section
variable {T : Tb} {cl : Cl}
theorem pi_imp {X : Cx} {tg e : Expr} {w w' : TI} (h : PI X tg e w) (i : ∀ σ H Rk, w' σ H Rk → w σ H Rk) : PI X tg e w' := ⟨fun pins s σ H Rk I q => h.run pins s σ H Rk I (i σ H Rk q)⟩
theorem pi_or {X : Cx} {tg e : Expr} {w w' : TI} (h : PI X tg e w) (h' : PI X tg e w') : PI X tg e fun σ H Rk => w σ H Rk ∨ w' σ H Rk := ⟨fun pins s σ H Rk I q => by
  rcases q with q | q
  · exact h.run pins s σ H Rk I q
  · exact h'.run pins s σ H Rk I q⟩
theorem few_some {ds es : List D} (h : few ds = some es) : es = ds ∧ ds.length ≤ big := by
  unfold few at h
  obtain ⟨h1, h2⟩ := ite_some h
  exact ⟨h2, h1⟩
theorem gdI_nf {m : Md} {it : It} (h : gdI m it = true) : m ≠ .f := fun e => by
  subst e
  cases it <;> exact ff h
theorem weakR {m : Md} {K : PySem.W.Frag} {F R H H0 d v} (hm : m ≠ .f) (r : RR m K H0 F R H d v) : RelT K F R H d v := by
  cases m with
  | s => exact .inl r
  | t => exact r
  | f => exact absurd rfl hm
theorem sndI_seq {a : Ex} (ha : Snd T cl a) : SndI T cl (.seq a) where
  i := fun {X M EX W} c e tg h m hg => by
    have hm := gdI_nf hg
    have hga : gd m a = true := by cases m <;> first | exact hg | exact ff hg
    have pa := ha.v c (matI_seq h) m hga
    refine pi_imp (pi_or (pi_list pa) (pi_or (pi_tup pa) (pi_str pa))) fun σ H Rk ⟨F, R, env, st, so, eo, q⟩ => ?_
    dsimp only [semI] at q
    cases e1 : (sem T cl a).v env st with
    | bad => rw [e1] at q; exact q.elim
    | exc x fs s1 =>
      rw [e1] at q
      exact .inl ⟨F, R, env, st, so, eo, by rw [e1]; exact q⟩
    | ok x s1 =>
      rw [e1] at q
      replace q : After X.K W σ F R H (ofO ((itemsD x).bind few) s1) _ := q
      obtain ⟨ds, h1, q'⟩ := q.ofO
      obtain ⟨es, h2, h3⟩ := Option.bind_eq_some_iff.mp h1
      obtain ⟨rfl, h4⟩ := few_some h3
      have back : ∀ F' R' H', Grow F R H F' R' H' → StOk X.K F' R' H' s1 → ∀ v, RR m X.K H F' R' H' x v → RR m X.K H' F' R' H' x v := fun F' R' H' g so' v r => RR.h0 hm r
      cases x <;> first | (cases h2; done) | skip
      · cases h2
        exact .inr (.inr ⟨F, R, env, st, so, eo, by
          rw [e1]
          exact fun F' R' H' g so' => ⟨okM_nf hm _, fun v hv => ⟨_, (weakR hm hv).str, q' F' R' H' g so' _ walk_str⟩⟩⟩)
      · cases h2
        exact .inr (.inl ⟨F, R, env, st, so, eo, by
          rw [e1]
          exact fun F' R' H' g so' => ⟨okM_nf hm _, fun v hv => by
            obtain ⟨b, e, hb, w⟩ := walk_tup (m := m) (weakR hm hv) rfl ⟨s1, so'⟩
            exact ⟨b, e, hb, q' F' R' H' g so' _ w⟩⟩⟩)
      · cases h2
        exact .inl ⟨F, R, env, st, so, eo, by
          rw [e1]
          exact fun F' R' H' g so' => ⟨okM_nf hm _, fun v hv => by
            obtain ⟨b, e, hb, w⟩ := walk_lst (RR.h0 hm hv) hm ⟨s1, so'⟩
            exact ⟨b, e, hb, q' F' R' H' g so' _ w⟩⟩⟩
      · cases h2
        exact .inr (.inl ⟨F, R, env, st, so, eo, by
          rw [e1]
          exact fun F' R' H' g so' => ⟨okM_nf hm _, fun v hv => by
            obtain ⟨b, e, hb, w⟩ := walk_tup (m := m) (weakR hm hv) rfl ⟨s1, so'⟩
            exact ⟨b, e, hb, q' F' R' H' g so' _ w⟩⟩⟩)
theorem sndI_rng {es : Es} (hs : SndA T cl es) : SndI T cl (.rng es) where
  i := fun {X M EX W} c e tg h m hg => by
    obtain ⟨p, xs, q, rfl, h1, h2, h3, h4⟩ := matI_rng h
    obtain ⟨g1, g2⟩ := c.glo h1
    have hA := hs.a c h4 .t rfl
    have hb : X.mg "range" = none := c.blt _ (by decide)
    cases es with
    | nil => exact absurd h2 (by show ¬ 1 ≤ 0; omega)
    | cons a es =>
      obtain ⟨y, r, rfl, k1, k2⟩ := mats_cons h4
      cases es with
      | nil =>
        cases mats_nil k2
        refine pi_imp (pi_range1 g1 hb hA (star_each (mat_ns k1))) fun σ H Rk ⟨F, R, env, st, so, eo, q⟩ => ?_
        refine ⟨F, R, env, st, so, eo, (sems_len q).imp fun ds st1 F1 R1 H1 g1 so1 q1 => fun vs hvs => ?_⟩
        obtain ⟨hl, q1⟩ := q1
        obtain ⟨es', e1, q2⟩ := q1.ofO
        obtain ⟨fs, e2, e3⟩ := Option.bind_eq_some_iff.mp e1
        obtain ⟨rfl, e4⟩ := few_some e3
        rcases ds with _ | ⟨d, _ | ⟨d', ds⟩⟩ <;> first | (cases hl; done) | skip
        cases d <;> first | (cases e2; done) | skip
        rename_i n
        obtain ⟨k3, rfl⟩ := ite_some e2
        obtain ⟨v, rfl, r1⟩ := one_arg hvs
        exact ⟨n, by rw [r1.int], by omega, by omega, q2 F1 R1 H1 .refl so1 _ walk_rng⟩
      | cons b es =>
        obtain ⟨z, r, rfl, k3, k4⟩ := mats_cons k2
        cases es with
        | cons u es =>
          obtain ⟨t, r, rfl, k5, k6⟩ := mats_cons k4
          cases es with
          | cons u es => exact absurd h3 (by show ¬ (es.len + 1 + 1 + 1 + 1 ≤ 3); omega)
          | nil =>
            cases mats_nil k6
            refine pi_imp (pi_range3 g1 hb hA (star_each (mat_ns k1)) (by rw [star_each (mat_ns k3), star_each (mat_ns k5)]; rfl)) fun σ H Rk ⟨F, R, env, st, so, eo, q⟩ => ?_
            refine ⟨F, R, env, st, so, eo, (sems_len q).imp fun ds st1 F1 R1 H1 g1 so1 q1 => fun vs hvs => ?_⟩
            obtain ⟨hl, q1⟩ := q1
            obtain ⟨es', e1, q2⟩ := q1.ofO
            obtain ⟨fs, e2, e3⟩ := Option.bind_eq_some_iff.mp e1
            obtain ⟨rfl, e4⟩ := few_some e3
            rcases ds with _ | ⟨d, _ | ⟨d', _ | ⟨d'', _ | ⟨_, ds⟩⟩⟩⟩ <;> first | (cases hl; done) | skip
            cases d <;> cases d' <;> cases d'' <;> first | (cases e2; done) | skip
            rename_i n n' n''
            obtain ⟨k7, rfl⟩ := ite_some e2
            obtain ⟨v, ws, rfl, r1, hvs⟩ := hvs
            obtain ⟨v', ws, rfl, r2, hvs⟩ := hvs
            obtain ⟨v'', ws, rfl, r3, hvs⟩ := hvs
            cases hvs
            obtain ⟨k7, k8⟩ := b2 k7
            obtain ⟨k7, k9⟩ := b2 k7
            obtain ⟨k7, k10⟩ := b2 k7
            exact ⟨n, n', n'', _, by rw [r1.int, r2.int, r3.int], ⟨of_decide_eq_true k7, of_decide_eq_true k10, k9, (Int.toNat_of_nonneg (of_decide_eq_true k8)).symm⟩, q2 F1 R1 H1 .refl so1 _ walk_rngC⟩
        | nil =>
          cases mats_nil k4
          refine pi_imp (pi_range2 g1 hb hA (by rw [star_each (mat_ns k1), star_each (mat_ns k3)]; rfl) (star_each (mat_ns k3))) fun σ H Rk ⟨F, R, env, st, so, eo, q⟩ => ?_
          refine ⟨F, R, env, st, so, eo, (sems_len q).imp fun ds st1 F1 R1 H1 g1 so1 q1 => fun vs hvs => ?_⟩
          obtain ⟨hl, q1⟩ := q1
          obtain ⟨es', e1, q2⟩ := q1.ofO
          obtain ⟨fs, e2, e3⟩ := Option.bind_eq_some_iff.mp e1
          obtain ⟨rfl, e4⟩ := few_some e3
          rcases ds with _ | ⟨d, _ | ⟨d', _ | ⟨_, ds⟩⟩⟩ <;> first | (cases hl; done) | skip
          cases d <;> cases d' <;> first | (cases e2; done) | skip
          rename_i n n'
          obtain ⟨k5, rfl⟩ := ite_some e2
          obtain ⟨v, w, rfl, r1, r2⟩ := two_args hvs
          exact ⟨n, n', by rw [r1.int, r2.int], by omega, q2 F1 R1 H1 .refl so1 _ walk_rng⟩
theorem sndI_enu {a : Ex} (ha : Snd T cl a) : SndI T cl (.enu a) where
  i := fun {X M EX W} c e tg h m hg => by
    have hm := gdI_nf hg
    have hga : gd m a = true := by cases m <;> first | exact hg | exact ff hg
    obtain ⟨p, y, q, rfl, h1, h2, h3⟩ := matI_enu h
    obtain ⟨es, k, pp, rfl⟩ := isTupE_ok h3
    obtain ⟨g1, g2⟩ := c.glo h1
    refine pi_imp (pi_enumA g1 (c.blt _ (by decide)) (pa_cons (ha.v c h2 m hga) pa_nil (star_each (mat_ns h2))) (star_each (mat_ns h2))) fun σ H Rk ⟨F, R, env, st, so, eo, q⟩ => ?_
    refine ⟨F, R, env, st, so, eo, q.bind.imp fun d st1 F1 R1 H1 g1 so1 q1 => ⟨okM_nf hm _, fun v hv => ?_⟩⟩
    obtain ⟨ds, e1, q2⟩ := q1.ofO
    obtain ⟨fs, e2, e3⟩ := Option.bind_eq_some_iff.mp e1
    obtain ⟨rfl, e4⟩ := few_some e3
    obtain ⟨xs, e5, rfl⟩ := Option.map_eq_some_iff.mp e2
    replace hv := RR.h0 (H1 := H1) hm hv
    cases d <;> first | (cases e5; done) | skip
    · cases e5
      obtain ⟨b, e, hb, w⟩ := walk_enT (m := m) (weakR hm hv) rfl ⟨st1, so1⟩
      obtain ⟨xs, hb⟩ := hb
      exact ⟨b, by rw [e], .inr ⟨xs, hb, q2 F1 R1 H1 .refl so1 _ w⟩⟩
    · cases e5
      obtain ⟨b, e, hb, w⟩ := walk_enL hv hm ⟨st1, so1⟩
      obtain ⟨xs, hb⟩ := hb
      exact ⟨b, by rw [e], .inl ⟨xs, hb, q2 F1 R1 H1 .refl so1 _ w⟩⟩
    · cases e5
      obtain ⟨b, e, hb, w⟩ := walk_enT (m := m) (weakR hm hv) rfl ⟨st1, so1⟩
      obtain ⟨xs, hb⟩ := hb
      exact ⟨b, by rw [e], .inr ⟨xs, hb, q2 F1 R1 H1 .refl so1 _ w⟩⟩
theorem sndI_zip {a b : Ex} (ha : Snd T cl a) (hb : Snd T cl b) : SndI T cl (.zip a b) where
  i := fun {X M EX W} c e tg h m hg => by
    have hm := gdI_nf hg
    have hga : gd m a = true ∧ gd m b = true := by cases m <;> first | exact b2 hg | exact ff hg
    obtain ⟨p, y, z, q, rfl, h1, h2, h3, h4⟩ := matI_zip h
    obtain ⟨es, k, pp, rfl⟩ := isTupE_ok h4
    obtain ⟨g1, g2⟩ := c.glo h1
    have st2 := star_each (es := [z]) (env := X.env) (mat_ns h2)
    have st3 := star_each (es := []) (env := X.env) (mat_ns h3)
    refine pi_imp (RZ.pi_zipA g1 (c.blt _ (by decide)) (pa_cons (ha.v c h2 m hga.1) (pa_cons (hb.v c h3 m hga.2) pa_nil st3) st2) st2 (by rw [st3]; rfl)) fun σ H Rk ⟨F, R, env, st, so, eo, q⟩ => ?_
    refine ⟨F, R, env, st, so, eo, q.bind.imp fun d st1 F1 R1 H1 g1 so1 q1 => ⟨okM_nf hm _, fun v hv => ⟨F1, R1, env, st1, so1, eo.grow g1, q1.bind.imp fun e st2 F2 R2 H2 g2 so2 q2 => ⟨okM_nf hm _, fun w hw => ?_⟩⟩⟩⟩
    obtain ⟨ds, e1, q3⟩ := q2.ofO
    obtain ⟨fs, e2, e3⟩ := Option.bind_eq_some_iff.mp e1
    obtain ⟨rfl, e4⟩ := few_some e3
    have hv2 : RR m X.K H2 F2 R2 H2 d v := RR.grow hm (RR.h0 hm hv) g2
    have hw2 : RR m X.K H2 F2 R2 H2 e w := RR.h0 hm hw
    have tups : ∀ xs ys, tupD d = some xs → tupD e = some ys → ds = zipD xs ys → ∃ a b xs ys, [v, w] = [V.ref a, V.ref b] ∧ ((SqL X.K H2 a xs ∧ SqL X.K H2 b ys ∧ Rk (Itz X.K a b) H2) ∨ (SqT X.K H2 a xs ∧ SqT X.K H2 b ys ∧ Rk (RZ.ItzT X.K a b) H2)) := fun xs ys k1 k2 k3 => by
      obtain ⟨a, b, xs', ys', f1, f2, f3, f4, f5⟩ := walk_zipT (m := m) (weakR hm hv2) (weakR hm hw2) k1 k2 ⟨st2, so2⟩
      subst k3
      exact ⟨a, b, xs', ys', by rw [f1, f2], .inr ⟨f3, f4, q3 F2 R2 H2 .refl so2 _ f5⟩⟩
    cases d <;> cases e <;> first
      | (cases e2; done)
      | (cases e2; exact tups _ _ rfl rfl rfl)
      | skip
    cases e2
    obtain ⟨a, b, xs', ys', f1, f2, f3, f4, f5⟩ := walk_zipL hv2 hw2 hm ⟨st2, so2⟩
    exact ⟨a, b, xs', ys', by rw [f1, f2], .inl ⟨f3, f4, q3 F2 R2 H2 .refl so2 _ f5⟩⟩
end
end Nb
end
section
set_option Elab.async false
set_option linter.all false
set_option maxRecDepth 100000
set_option maxHeartbeats 4000000
/-! NbO: list comprehensions -/
namespace Nb
open PySem PySem.Spec PyProof.Rows L2
section
variable {K : PySem.W.Frag} {EX : EXT} {F F' : Hp} {R R' : List Addr} {H H' : Hp} {st : Sto} {env : Enw} {σ : L2.St}
theorem EnvOk.no {i : Nat} (h : EnvOk K EX F R H env σ) : EnvOk K EX F R H (env.set i .no) (σ.set i none) where
  len := by rw [List.length_set, List.length_set]; exact h.len
  sl := fun j s o h1 h2 => by
    by_cases e : i = j
    · subst e
      by_cases hi : i < env.length
      · rw [List.getElem?_set_self hi] at h1
        cases h1
        trivial
      · rw [List.getElem?_eq_none (by simpa using hi)] at h1; cases h1
    · rw [List.getElem?_set_ne e] at h1 h2
      exact h.sl j s o h1 h2
  sep := fun a b x d' e' h1 h2 h3 h4 => by
    by_cases ea : i = a
    · subst ea
      by_cases hi : i < env.length
      · rw [List.getElem?_set_self hi] at h1; cases h1
      · rw [List.getElem?_eq_none (by simpa using hi)] at h1; cases h1
    · by_cases eb : i = b
      · subst eb
        by_cases hi : i < env.length
        · rw [List.getElem?_set_self hi] at h2; cases h2
        · rw [List.getElem?_eq_none (by simpa using hi)] at h2; cases h2
      · rw [List.getElem?_set_ne ea] at h1 h3
        rw [List.getElem?_set_ne eb] at h2 h4
        exact h.sep a b x d' e' h1 h2 h3 h4
theorem EnvOk.wipe (h : EnvOk K EX F R H env σ) : ∀ w : List Nat, EnvOk K EX F R H (env.wipe w) (L2.wipe σ w)
  | [] => h
  | v :: vs => (h.wipe vs).no
/-- an object that is new since H0 is written -/
theorem Grow.mut {F0 : Hp} {R0 : List Addr} {H0 : Hp} {a : Addr} {o : HO} (g : Grow F0 R0 H0 F R H) (h0 : H0 a = none) : Grow F0 R0 H0 F R (upd H a o) where
  sameF := g.sameF
  pre := g.pre
  keep := fun b u e n => by rw [upd_ne (ne_of_none e h0)]; exact g.keep b u e n
  back := fun b e => by
    by_cases hb : b = a
    · subst hb; exact h0
    · rw [upd_ne hb] at e; exact g.back b e
  newF := g.newF
  newR := g.newR
theorem StOk.mut {a : Addr} {o : HO} (h : StOk K F R H st) (hf : F a = none) (hr : a ∉ R) : StOk K F R (upd H a o) st where
  same := fun b u e => by rw [upd_ne (ne_of_none e hf)]; exact h.same b u e
  len := h.len
  nd := h.nd
  free := h.free
  obj := fun n q b h1 h2 => by
    have hb : b ≠ a := fun e => hr (by rw [← e]; exact List.mem_of_getElem? h2)
    have r := h.obj n q b h1 h2
    cases q with
    | lst ds => obtain ⟨vs, e, r⟩ := r; exact ⟨vs, by rw [upd_ne hb]; exact e, r⟩
/-- a new list that has grown: done -/
theorem Fin.done {m : Md} {F0 : Hp} {R0 : List Addr} {H0 : Hp} {z : D} {Q : VK} {a : Addr} (k : Fin m K F0 R0 H0 st z Q) (g : Grow F0 R0 H0 F R H) (so : StOk K F R H st) (h0 : H0 a = none) (hf : F a = none) (hr : a ∉ R) (ow : OwnR K F R H a z) : Q (.ref a) H := by
  cases m with
  | f => exact k F R H _ g so ⟨a, rfl, h0, hf, hr, ow⟩
  | t => exact k F R H _ g so (.inr ⟨a, rfl, hf, hr, ow⟩)
  | s =>
    obtain ⟨o, ho⟩ := ow.ex
    exact k _ R H _ (g.frz hf h0) (so.frz ho hf hr) (Own.rel ow hf ho)
end
section
variable {T : Tb} {cl : Cl} {X : Cx} {M : Mc} {EX : EXT} {W : WX}
def noW : WX := fun _ _ _ _ => False
theorem Ctx.blk (c : Ctx T cl X M EX W) (hc : M.calm = true) {s : Shared} {H : Hp} {scope : Scope} {C : Addr} {cv : List (Str × Addr)} {fp : List Addr} : Ctx T cl (X.blk s H scope (compEnvC scope cv C X.env) fp) (M.blk scope) EX noW where
  sc := by
    show relS scope X.env.scope = relS scope M.sc
    rw [c.sc]
  N := c.N
  nd := c.nd
  calm := c.calm
  guards := c.guards
  units := c.units
  fn := fun x h => h
  tk := fun u s' ⟨a, B, sI, pins, σ, H, cls, d, e, I, nb, up, sky, na, os, ag, w⟩ => w
  blt := c.blt
  con := c.con
  gti := c.gti
  xf := fun h => by
    have h : M.calm = false := h
    rw [hc] at h
    cases h
  cls := c.cls
theorem folded_no {iter : Expr} {env : Env} (h : notSet iter = true) : ∀ x, foldedSetIterable iter env x = pure x := fun x => by
  cases iter <;> first | rfl | exact ff h
structure SndC (T : Tb) (cl : Cl) (o : Op) : Prop where
  c : ∀ {X M EX W}, Ctx T cl X M EX W → ∀ {ifs}, matC M o ifs = true → PTs X ifs (tT X.K EX W (semC T cl o))
theorem pts_imp {ifs : List Expr} {t t' : TT} (h : PTs X ifs t) (i : ∀ σ H Q, t' σ H Q → t σ H Q) : PTs X ifs t' := ⟨fun pins s σ H Q I q => h.run pins s σ H Q I (i σ H Q q)⟩
theorem sndC_no : SndC T cl .no where
  c := fun {X M EX W} c ifs h => by
    cases matC_no h
    exact pts_imp pts_nil fun σ H Q ⟨F, R, env, st, so, eo, q⟩ => After.here q so
theorem sndC_so {a : Ex} (ha : Snd T cl a) : SndC T cl (.so a) where
  c := fun {X M EX W} c ifs h => by
    obtain ⟨x, rfl, h1⟩ := matC_so h
    exact pts_imp (pts_one (ha.b c h1)) fun σ H Q q => q
/-- the loop, one turn off -/
theorem lcLoop_cons {f : D → Sto → Res (Option D)} {d : D} {ds : List D} {st : Sto} {xs : List D} {s2 : Sto} (h : lcLoop f (d :: ds) st = .ok xs s2) :
    ∃ o st1 r, f d st = .ok o st1 ∧ lcLoop f ds st1 = .ok r s2 ∧ xs = (match o with | some x => x :: r | none => r) := by
  unfold lcLoop at h
  cases e1 : f d st with
  | bad => rw [e1] at h; cases h
  | exc _ _ _ => rw [e1] at h; cases h
  | ok o st1 =>
    rw [e1] at h
    change (lcLoop f ds st1).bind _ = _ at h
    cases e2 : lcLoop f ds st1 with
    | bad => rw [e2] at h; cases h
    | exc _ _ _ => rw [e2] at h; cases h
    | ok r s3 =>
      rw [e2] at h
      cases h
      exact ⟨o, st1, r, rfl, e2, rfl⟩
theorem turnC_ok {w : List Nat} {t : Tg} {c : Enw → Sto → Res Bool} {el : Enw → Sto → Res D} {e : Enw} {d : D} {s : Sto} {o : Option D} {s2 : Sto} (h : turnC w t c el e d s = .ok o s2) :
    ∃ e1 b s1, bindT t d (e.wipe w) = some e1 ∧ c e1 s = .ok b s1 ∧ ((b = true ∧ ∃ x, el e1 s1 = .ok x s2 ∧ o = some x) ∨ (b = false ∧ o = none ∧ s2 = s1)) := by
  unfold turnC at h
  cases e0 : bindT t d (e.wipe w) with
  | none => rw [e0] at h; cases h
  | some e1 =>
    rw [e0] at h
    simp only at h
    cases e2 : c e1 s with
    | bad => rw [e2] at h; cases h
    | exc _ _ _ => rw [e2] at h; cases h
    | ok b s1 =>
      rw [e2] at h
      cases b with
      | false => cases h; exact ⟨e1, false, _, rfl, e2, .inr ⟨rfl, rfl, rfl⟩⟩
      | true =>
        change (el e1 s1).bind _ = _ at h
        cases e3 : el e1 s1 with
        | bad => rw [e3] at h; cases h
        | exc _ _ _ => rw [e3] at h; cases h
        | ok x s3 =>
          rw [e3] at h
          cases h
          exact ⟨e1, true, s1, rfl, e2, .inl ⟨rfl, x, e3, rfl⟩⟩
theorem lcLoop_len {f : D → Sto → Res (Option D)} : ∀ {ds : List D} {st : Sto} {xs : List D} {s2 : Sto}, lcLoop f ds st = .ok xs s2 → xs.length ≤ ds.length
  | [], st, xs, s2, h => by cases h; exact Nat.le_refl _
  | d :: ds, st, xs, s2, h => by
    obtain ⟨o, st1, r, h1, h2, h3⟩ := lcLoop_cons h
    have := lcLoop_len h2
    subst h3
    cases o <;> simp <;> omega
theorem wipe_get {i : Nat} : ∀ {w : List Nat} {σ : L2.St}, (wipe σ w)[i]? = if i ∈ w then (σ[i]?).map (fun _ => none) else σ[i]?
  | [], σ => by simp [wipe]
  | v :: w, σ => by
    unfold wipe
    by_cases e : v = i
    · subst e
      rw [if_pos (List.mem_cons_self ..)]
      by_cases hv : v < σ.length
      · rw [List.getElem?_set_self (by rw [wipe_length]; exact hv), List.getElem?_eq_getElem hv]; rfl
      · rw [List.getElem?_eq_none (by simpa [wipe_length] using hv), List.getElem?_eq_none (by omega)]; rfl
    · rw [List.getElem?_set_ne e, wipe_get]
      have : (i ∈ v :: w) = (i ∈ w) := by simp [Ne.symm e]
      simp only [this]
theorem wipe_wipe {w : List Nat} {σ : L2.St} : wipe (wipe σ w) w = wipe σ w := by
  apply List.ext_getElem?
  intro i
  rw [wipe_get, wipe_get]
  split
  · cases σ[i]? <;> rfl
  · rfl
/-- the state ahead of turn i -/
structure LcSt (K : PySem.W.Frag) (F1 : Hp) (R1 : List Addr) (H1 : Hp) (f : D → Sto → Res (Option D)) (ds xs : List D) (s2 : Sto) (Dl : Addr) (i : Nat) (H : Hp) : Prop where
  h : ∃ F R st acc vs rest, Grow F1 R1 H1 F R H ∧ StOk K F R H st ∧ F Dl = none ∧ Dl ∉ R ∧ H Dl = some (.lst vs) ∧ Rels K F R acc vs ∧ acc.length ≤ i ∧ i ≤ ds.length ∧ lcLoop f (ds.drop i) st = .ok rest s2 ∧ xs = acc ++ rest
theorem Grow.offR {F0 : Hp} {R0 : List Addr} {H0 : Hp} {F : Hp} {R : List Addr} {H : Hp} (g : Grow F0 R0 H0 F R H) {a : Addr} {o : HO} (ha : H0 a = some o) (hr : a ∉ R0) (hf : F0 a = none) : a ∉ R ∧ F a = none := by
  refine ⟨fun hm => ?_, ?_⟩
  · have := g.newR a hm hr
    rw [ha] at this; cases this
  · cases e : F a with
    | none => rfl
    | some u =>
      have := g.newF a hf (by rw [e]; simp)
      rw [ha] at this; cases this
theorem lc_walk {w : List Nat} {t : Tg} {cc : Op} {el : Ex} {J : L2.It} {ds xs : List D} {s1 s2 : Sto} {m : Md} {Q : VK} {σ : L2.St} {env : Enw} {F1 : Hp} {R1 : List Addr} {H1 : Hp}
    (so1 : StOk X.K F1 R1 H1 s1) (eo1 : EnvOk X.K EX F1 R1 H1 env σ) (wk : Walk X.K (reach .t F1 R1 H1) J ds) (hbig : ds.length ≤ big) (hw : tgIn w t = true)
    (e1 : lcLoop (turnC w t (semC T cl cc) (sem T cl el).v env) ds s1 = .ok xs s2) (k : Fin m X.K F1 R1 H1 s2 (.lst xs) Q) : ∀ Dl, H1 Dl = none → ∃ Wf : Nat → Nat → Hp → Prop, (∃ m, Wf 0 m (upd H1 Dl (.lst []))) ∧ ∀ i m H, Wf i m H →
      ((J.stop i H ∧ Q (.ref Dl) H) ∨ (J.go i H ∧ ∃ Nx : Hp → Prop, (∀ H', Nx H' → ∃ m', m' < m ∧ Wf (i + 1) m' H') ∧ ∀ x H', J.yld i H x H' → gD X.K EX t x (wipe σ w) H' fun σ2 H2 => wipe σ2 w = wipe σ w ∧ tT X.K EX noW (semC T cl cc) σ2 H2 fun b H3 =>
        if b = true then tE .s X.K EX noW (sem T cl el).v σ2 H3 fun y H4 => ∃ acc, H4 Dl = some (.lst acc) ∧ acc.length < sizeLine ∧ Nx (upd H4 Dl (.lst (acc ++ [y]))) else Nx H3)) := fun Dl hD => by
  let f := turnC w t (semC T cl cc) (sem T cl el).v env
  refine ⟨fun i m H => m = ds.length - i ∧ LcSt X.K F1 R1 H1 f ds xs s2 Dl i H, ⟨ds.length, by simp, ?_⟩, ?_⟩
  · have hr : Dl ∉ R1 := fun h => by
      obtain ⟨o, ho⟩ := so1.there h
      rw [hD] at ho; cases ho
    exact ⟨F1, R1, s1, [], [], xs, .newH hD, so1.newH hD, so1.same.free hD, hr, upd_same, Rels.nil, Nat.le_refl _, Nat.zero_le _, by simpa using e1, rfl⟩
  rintro i mm H ⟨rfl, F, R, st, acc, vs, rest, g, so, hf, hr, hv, rr, hai, hi, hl, hx⟩
  by_cases hlt : i < ds.length
  · right
    have hd : ds[i]? = some ds[i] := List.getElem?_eq_getElem hlt
    obtain ⟨w1, w2⟩ := wk.go F R H st i _ g so hd
    refine ⟨w1, fun H' => LcSt X.K F1 R1 H1 f ds xs s2 Dl (i + 1) H', fun H' h => ⟨ds.length - (i + 1), by omega, rfl, h⟩, fun x H' hy => ?_⟩
    obtain ⟨F', g', so', rx⟩ := w2 x H' hy
    rw [List.drop_eq_getElem_cons hlt] at hl
    obtain ⟨o, st1, r, l1, l2, l3⟩ := lcLoop_cons hl
    obtain ⟨e1, b, s1', t1, t2, t3⟩ := turnC_ok l1
    have gg := g.trans g'
    have hv' : H' Dl = some (.lst vs) := g'.keep Dl _ hv hr
    obtain ⟨hr', hf'⟩ := g'.offR hv hr hf
    have eo' : EnvOk X.K EX F' R H' (env.wipe w) (wipe σ w) := (eo1.grow gg).wipe w
    refine ⟨F', R, st, _, ds[i], e1, so', eo', rx, t1, fun σ' eo2 hw2 _ => ⟨by rw [hw2 w hw]; exact wipe_wipe, F', R, e1, st, so', eo2, ?_⟩⟩
    rw [t2]
    intro F2 R2 H2 g2 so2
    have hv2 : H2 Dl = some (.lst vs) := g2.keep Dl _ hv' hr'
    obtain ⟨hr2, hf2⟩ := g2.offR hv' hr' hf'
    rcases t3 with ⟨hb, x', t4, ho⟩ | ⟨hb, ho, hs⟩
    · subst hb ho
      show if true = true then _ else _
      rw [if_pos rfl]
      refine ⟨F2, R2, e1, s1', so2, eo2.grow g2, ?_⟩
      rw [t4]
      intro F3 R3 H3 g3 so3
      refine ⟨trivial, fun y ry => ?_⟩
      have hv3 : H3 Dl = some (.lst vs) := g3.keep Dl _ hv2 hr2
      obtain ⟨hr3, hf3⟩ := g3.offR hv2 hr2 hf2
      have r3 : Rels X.K F3 R3 acc vs := ((rr.mono g'.sameF g'.pre).mono g2.sameF g2.pre).mono g3.sameF g3.pre
      refine ⟨vs, hv3, by rw [← r3.len, sizeLine_eq]; have : (big : Nat) = 16777216 := rfl; omega, F3, R3, st1, acc ++ [x'], vs ++ [y], r, ((gg.trans g2).trans g3).mut hD, so3.mut hf3 hr3, hf3, hr3, upd_same, r3.app (Rels.one ry), by simp; omega, hlt, l2, ?_⟩
      rw [hx, l3]
      simp
    · subst hb ho hs
      show if false = true then _ else _
      rw [if_neg Bool.false_ne_true]
      exact ⟨F2, R2, _, acc, vs, r, gg.trans g2, so2, hf2, hr2, hv2, (rr.mono g'.sameF g'.pre).mono g2.sameF g2.pre, by omega, hlt, l2, by rw [hx, l3]⟩
  · left
    have e : i = ds.length := by omega
    subst e
    refine ⟨wk.stop F R H st g so, ?_⟩
    rw [List.drop_length] at hl
    cases hl
    rw [List.append_nil] at hx
    subst hx
    exact k.done g so hD hf hr ⟨vs, hv, rr⟩
theorem nox_ok {α : Type} {r : Res α} {a : α} {st : Sto} (h : r.nox = .ok a st) : r = .ok a st := by
  cases r with
  | ok _ _ => exact h
  | exc _ _ _ => cases h
  | bad => cases h
theorem semI_len {it : It} {env : Enw} {st : Sto} {ds : List D} {s1 : Sto} (h : semI T cl it env st = .ok ds s1) : ds.length ≤ big := by
  have key : ∀ (r : Res D) (f : D → Option (List D)), (r.bind fun x s1 => ofO ((f x).bind few) s1) = .ok ds s1 → ds.length ≤ big := fun r f h => by
    cases r with
    | bad => cases h
    | exc _ _ _ => cases h
    | ok x s =>
      replace h : ofO ((f x).bind few) s = .ok ds s1 := h
      cases e : (f x).bind few with
      | none => rw [e] at h; cases h
      | some es =>
        rw [e] at h
        cases h
        obtain ⟨fs, e1, e2⟩ := Option.bind_eq_some_iff.mp e
        obtain ⟨rfl, h1⟩ := few_some e2
        exact h1
  cases it with
  | seq a => exact key _ itemsD h
  | rng es =>
    unfold semI at h
    cases e1 : sems T cl es env st with
    | bad => rw [e1] at h; cases h
    | exc _ _ _ => rw [e1] at h; cases h
    | ok xs s =>
      rw [e1] at h
      exact key (.ok .non s) (fun _ => rngD xs) h
  | zip a b =>
    unfold semI at h
    cases e1 : (sem T cl a).v env st with
    | bad => rw [e1] at h; cases h
    | exc _ _ _ => rw [e1] at h; cases h
    | ok x s =>
      rw [e1] at h
      exact key ((sem T cl b).v env s) (fun y => zip2D x y) h
  | zips a => exact key _ (fun x => (rowsD x).map zipsD) h
  | enu a => exact key _ (fun x => (itsD x).map enuD) h
theorem lc_rd {X : Cx} {EX : EXT} {W : WX} {w : List Nat} {t : Tg} {it : It} {cc : Op} {el : Ex} {m : Md} (h5 : tgIn w t = true) : ∀ σ H Q, tE m X.K EX W (sem T cl (.lc w t it cc el)).v σ H Q →
    tLc (tI .t X.K EX W (semI T cl it)) (gD X.K EX t) (tT X.K EX noW (semC T cl cc)) (tE .s X.K EX noW (sem T cl el).v) w σ H Q := fun σ H Q ⟨F, R, env, st, so, eo, q⟩ => by
  refine ⟨F, R, env, st, so, eo, q.bind.eqn.imp fun ds s1 F1 R1 H1 g1 so1 q1 J wk => ?_⟩
  obtain ⟨q0, q1⟩ := q1
  have q2 := q1.bind
  cases e1 : (lcLoop (turnC w t (semC T cl cc) (sem T cl el).v env) ds s1).nox with
  | bad => rw [e1] at q2; exact q2.elim
  | exc _ _ _ =>
    cases e2 : lcLoop (turnC w t (semC T cl cc) (sem T cl el).v env) ds s1 <;> rw [e2] at e1 <;> cases e1
  | ok xs s2 =>
    rw [e1] at q2
    have e2 := nox_ok e1
    have k : Fin m X.K F1 R1 H1 s2 (.lst xs) Q := fun F' R' H' v g so' r => ((After.here (q2 F' R' H' g so') so')).2 v (r.back g1.back)
    exact lc_walk so1 (eo.grow g1) wk (semI_len q0) h5 e2 k
theorem snd_lc {w : List Nat} {t : Tg} {it : It} {cc : Op} {el : Ex} (hi : SndI T cl it) (hg : gdI .t it = true) (hc : SndC T cl cc) (he : Snd T cl el) : Snd T cl (.lc w t it cc el) := Snd.mkT (fun {X M EX W} c e h m hgm => by
    obtain ⟨x, tg, iter, ifs, scope, p, rfl, h1, h2, h3, h4, h5, h6, h7, h8, h9, h10⟩ := mat_lc h
    have hok : BlkOk X.N X.env.scope scope (ownOf M.N w) := by
      rw [c.sc, c.N]
      exact blkOk_by h1
    refine pe_imp (pe_lc (g := gD X.K EX t) (tt := tT X.K EX noW (semC T cl cc)) (te := tE .s X.K EX noW (sem T cl el).v) (c.calm h10) c.nd (hi.i c h4 .t hg) hok (fun s H C cv fp => pg_D (c.blk h10) h6) (fun s H C cv fp => hc.c (c.blk h10) h7) (fun s H C cv fp => he.v (c.blk h10) h9 .s h8) (folded_no h3)) ?_
    rw [h2]
    exact lc_rd h5)
  (fun {M e} h => by obtain ⟨x, tg, iter, ifs, scope, p, rfl, _⟩ := mat_lc h; rfl) rfl
/-- name = [..] on one line -/
structure SndL (T : Tb) (cl : Cl) (a : Ex) : Prop where
  l : ∀ {X M EX W}, Ctx T cl X M EX W → ∀ {v : Expr} {i : Nat} {x : Str} {px p : Pos}, mat M a v = true → ∀ m, gd m a = true → slotB M.N i x = true → lclB M.sc x = true → swapsWith v (some (.Name x px)) p.line X.env = pure true →
    PS X (.Assign [.Name x px] v p) (tAsg (tE m X.K EX W (sem T cl a).v) (gName i))
theorem lcl_ok {sc : Scope} {x : Str} (h : lclB sc x = true) : sc.names.lookup x = some .local := by
  unfold lclB at h
  split at h
  · assumption
  · cases h
theorem sndL_lc {w : List Nat} {t : Tg} {it : It} {cc : Op} {el : Ex} (hi : SndI T cl it) (hg : gdI .t it = true) (hc : SndC T cl cc) (he : Snd T cl el) : SndL T cl (.lc w t it cc el) where
  l := fun {X M EX W} c v i y px pp h m hgm hs hl hsw => by
    obtain ⟨x, tg, iter, ifs, scope, p, rfl, h1, h2, h3, h4, h5, h6, h7, h8, h9, h10⟩ := mat_lc h
    have hok : BlkOk X.N X.env.scope scope (ownOf M.N w) := by
      rw [c.sc, c.N]
      exact blkOk_by h1
    refine ps_imp (ps_setLc (g := gD X.K EX t) (tt := tT X.K EX noW (semC T cl cc)) (te := tE .s X.K EX noW (sem T cl el).v) (c.calm h10) c.nd (c.slot hs) (by rw [c.sc]; exact lcl_ok hl) hsw (hi.i c h4 .t hg) hok (fun s H C cv fp => pg_D (c.blk h10) h6) (fun s H C cv fp => hc.c (c.blk h10) h7) (fun s H C cv fp => he.v (c.blk h10) h9 .s h8) (folded_no h3)) fun D0 σ H q => ?_
    rw [h2]
    exact lc_rd h5 σ H _ q
end
end Nb
end
section
set_option Elab.async false
set_option linter.all false
set_option maxRecDepth 100000
set_option maxHeartbeats 4000000
/-! NbP: isinstance, methods of lists, shared lists, fields of errors -/
namespace Nb
open PySem PySem.Spec PyProof.Rows L2
section
variable {T : Tb} {cl : Cl} {K : PySem.W.Frag} {F : Hp} {R : List Addr} {H : Hp} {st : Sto}
/-! ### isinstance -/
theorem tyD_x {d : D} {v : V} {t : String} (so : StOk K F R H st) (r : RelT K F R H d v) (h : tyD d = some t) : TyX K H v (.type t) := by
  cases d <;> first | (cases h; done) | skip
  · cases h; rw [r.non]; exact .base .non
  · cases h; rw [r.bl]; exact .base (.bl _)
  · cases h; rw [r.int]; exact .base (.int _)
  · cases h; rw [r.str]; exact .base (.str _)
  · cases h
    obtain ⟨a, vs, rfl, h1, _⟩ := r.tup so.same
    exact .base (.tup h1)
  · cases h
    obtain ⟨a, vs, rfl, h1, _⟩ := r.lst so.same
    exact .base (.lst h1)
  · cases h
    obtain ⟨a, vs, rfl, h1, _⟩ := r.ctup so.same
    rcases h1 with (h1 | ⟨o, h1⟩) | ⟨o, its, n, h1, h2, _⟩
    · exact .base (.tup h1)
    · exact .fTuple h1
    · exact .kTuple h1 h2
theorem kit_tab {t u : String} (ht : t = "NoneType" ∨ t = "bool" ∨ t = "int" ∨ t = "str" ∨ t = "tuple" ∨ t = "list") (hu : u = "int" ∨ u = "bool" ∨ u = "str" ∨ u = "tuple" ∨ u = "list") : PySem.W.kitOne K (.type t) (.type u) = some (isiT t u) := by
  rcases ht with rfl | rfl | rfl | rfl | rfl | rfl <;> rcases hu with rfl | rfl | rfl | rfl | rfl <;> kernel_rfl
theorem tyD_in {d : D} {t : String} (h : tyD d = some t) : t = "NoneType" ∨ t = "bool" ∨ t = "int" ∨ t = "str" ∨ t = "tuple" ∨ t = "list" := by
  cases d <;> first | (cases h; done) | (cases h; simp)
theorem isi_one {d : D} {t : String} {k : Bool} (h : isiD d [t] = some k) : ∃ u, tyD d = some u ∧ (t = "int" ∨ t = "bool" ∨ t = "str" ∨ t = "tuple" ∨ t = "list") ∧ k = isiT u t := by
  unfold isiD at h
  cases e : tyD d with
  | none => rw [e] at h; cases h
  | some u =>
    rw [e] at h
    obtain ⟨h1, rfl⟩ := ite_some h
    refine ⟨u, rfl, ?_, by simp⟩
    simp at h1
    exact h1
theorem boot_ty {t : String} (h : t = "int" ∨ t = "bool" ∨ t = "str" ∨ t = "tuple" ∨ t = "list") : bootBuiltins (Str.ofString t) = some (.type t) ∧ Str.ofString t ≠ "__name__" ∧ (Str.ofString t == ("__debug__" : Str)) = false ∧ Str.ofString t ∈ bltNames := by
  rcases h with rfl | rfl | rfl | rfl | rfl
  · exact ⟨rfl, by decide, by decide, by decide⟩
  · exact ⟨rfl, by decide, by decide, by decide⟩
  · exact ⟨rfl, by decide, by decide, by decide⟩
  · exact ⟨rfl, by decide, by decide, by decide⟩
  · exact ⟨rfl, by decide, by decide, by decide⟩
theorem isi_of {X : Cx} {M : Mc} {EX : EXT} {W : WX} (c : Ctx T cl X M EX W) {a : Ex} (ha : Snd T cl a) {p q r : Pos} {y : Expr} {t : String} (g1 : gloB M.sc "isinstance" = true) (hm : mat M a y = true) (g2 : gloB M.sc (Str.ofString t) = true) :
    (t = "int" ∨ t = "bool" ∨ t = "str" ∨ t = "tuple" ∨ t = "list") → PE X (.Call (.Name "isinstance" p) [y, .Name (Str.ofString t) q] [] r) (tCB (rIsi X.K) (tCons (tE .t X.K EX W (sem T cl a).v) (tCons (tC (.ty t)) tNil))) := fun ht => by
  obtain ⟨h1, h2⟩ := c.glo g1
  obtain ⟨h3, h4⟩ := c.glo g2
  obtain ⟨b1, b2, b3, b4⟩ := boot_ty ht
  have hs : starEach [.Name (Str.ofString t) q] X.env = (false, eval (.Name (Str.ofString t) q) X.env) :: starEach [] X.env := rfl
  exact pe_callB call_isi h1 (c.blt _ (by decide)) rfl (pa_cons (ha.v c hm .t rfl) (pa_cons (pe_bltn h3 (c.blt _ b4) b1 rfl b2 b3) pa_nil hs) (star_each (mat_ns hm))) (by decide) (by decide) (star_each (mat_ns hm)) (by rw [hs]; rfl)
theorem isi_rd {X : Cx} {EX : EXT} {W : WX} {a : Ex} {t : String} {σ : L2.St} {H : Hp} {Q : Bool → Hp → Prop} {Q' : VK} (hq : ∀ k H', Q k H' → Q' (.bl k) H') (q : tT X.K EX W (fun e st => ((sem T cl a).v e st).bind fun x s1 => ofO (isiD x [t]) s1) σ H Q) :
    tCB (rIsi X.K) (tCons (tE .t X.K EX W (sem T cl a).v) (tCons (tC (.ty t)) tNil)) σ H Q' := by
  obtain ⟨F, R, env, st, so, eo, q⟩ := q
  exact ⟨F, R, env, st, so, eo, q.bind.imp fun d st1 F1 R1 H1 g1 so1 q1 => ⟨trivial, fun v hv => by
    obtain ⟨k, hk, q2⟩ := q1.ofO
    obtain ⟨u, e1, e2, rfl⟩ := isi_one hk
    exact ⟨v, .ty t, .type u, .type t, isiT u t, rfl, .ty t, tyD_x so1 hv e1, kit_tab (tyD_in e1) e2, hq _ _ (q2 F1 R1 H1 .refl so1)⟩⟩⟩
theorem snd_isi {a : Ex} {ts : List String} (ha : Snd T cl a) : Snd T cl (.isi a ts) where
  v := fun {X M EX W} c e h m hg => by
    obtain ⟨p, y, z, q, r, t, rfl, h1, h2, rfl, rfl, h3, ht⟩ := mat_isi h
    exact pe_imp (isi_of c ha h1 h2 h3 ht) fun σ H Q q => isi_rd (fun _ _ h => h) (tE_tT q)
  b := fun {X M EX W} c e h => by
    obtain ⟨p, y, z, q, r, t, rfl, h1, h2, rfl, rfl, h3, ht⟩ := mat_isi h
    exact pt_imp (pt_val (isi_of c ha h1 h2 h3 ht) (isTrue_pl rfl)) fun σ H Q q => isi_rd (fun k _ h => ⟨k, rfl, h⟩) q

/-! ### a new shared list -/
theorem snd_new {a : Ex} (ha : Snd T cl a) : Snd T cl (.new a) := Snd.mkT (fun {X M EX W} c e h m hg => by
    obtain ⟨h1, h0, h2⟩ := mat_new h
    have hm : m ≠ .f := fun e => by subst e; exact ff hg
    refine pe_imp (ha.v c h2 .f h1) fun σ H Q ⟨F, R, env, st, so, eo, q⟩ => ?_
    refine ⟨F, R, env, st, so, eo, ?_⟩
    dsimp only [sem, Nb.mkT] at q
    cases e1 : (sem T cl a).v env st with
    | bad => rw [e1] at q; exact q.elim
    | exc c fs s => rw [e1] at q; exact q
    | ok d st1 =>
      rw [e1] at q
      replace q : After X.K W σ F R H (newD d st1) _ := q
      cases d <;> first | exact q.elim | skip
      rename_i ds
      intro F1 R1 H1 g1 so1
      refine ⟨rfl, fun v ⟨p, e, h0, hf, hr, ow⟩ => ?_⟩
      subst e
      obtain ⟨vs, hv, rr⟩ := ow
      have pre : R1 <+: R1 ++ [p] := ⟨[p], rfl⟩
      have so2 : StOk X.K F1 (R1 ++ [p]) H1 (st1 ++ [.lst ds]) := by
        refine ⟨so1.same, by simp [so1.len], ?_, fun a ha => ?_, fun n o a h1 h2 => ?_⟩
        · exact List.nodup_append.mpr ⟨so1.nd, by simp, fun a ha b hb => by simp at hb; subst hb; exact fun e => hr (e ▸ ha)⟩
        · rcases List.mem_append.mp ha with ha | ha
          · exact so1.free a ha
          · simp at ha; subst ha; exact hf
        · by_cases hn : n < st1.length
          · rw [List.getElem?_append_left hn] at h1
            rw [List.getElem?_append_left (by rw [so1.len]; exact hn)] at h2
            exact (so1.obj n o a h1 h2).mono (Same.refl _) pre fun o h => h
          · have hn2 : st1.length ≤ n := Nat.le_of_not_lt hn
            rw [List.getElem?_append_right hn2] at h1
            rw [List.getElem?_append_right (by rw [so1.len]; exact hn2)] at h2
            cases e : n - st1.length with
            | succ k => rw [e] at h1; simp at h1
            | zero =>
              rw [e] at h1
              rw [so1.len, e] at h2
              simp at h1 h2
              subst h1 h2
              exact ⟨vs, hv, rr.mono (Same.refl _) pre⟩
      have g2 : Grow F R H F1 (R1 ++ [p]) H1 := ⟨g1.sameF, g1.pre.trans pre, g1.keep, g1.back, g1.newF, fun b hb hb2 => by
        rcases List.mem_append.mp hb with hb | hb
        · exact g1.newR b hb hb2
        · simp at hb; subst hb; exact h0⟩
      have rel : Rel X.K F1 (R1 ++ [p]) (.ref st1.length) (.ref p) := by
        unfold Rel
        exact ⟨p, by rw [← so1.len]; simp, rfl⟩
      refine (q F1 (R1 ++ [p]) H1 g2 so2).2 _ ?_
      cases m with
      | s => exact rel
      | t => exact .inl rel
      | f => exact absurd rfl hm)
  (fun {M e} h => (mat_new h).2.1) rfl

/-! ### o.pop(), o.pop(i) of a shared list -/
theorem plain_base {o : Expr} {n : Str} {env : Env} (h : plainO o = true) : attributeBase o n env (eval o env) = eval o env := by
  cases o <;> first | exact ff h | rfl
theorem popI_r {K : PySem.W.Frag} {ds : List D} {i : Option Int} {d : D} {r : List D} {vs : List V} (rr : Rels K F R ds vs) (h : popD ds i = some (d, r)) : ∃ k y, (match i with | none => k = ds.length - 1 ∧ r = ds.dropLast | some i => ixN ds.length i = some k ∧ ds.length ≤ big ∧ r = ds.eraseIdx k) ∧ vs[k]? = some y ∧ Rel K F R d y := by
  cases i with
  | none =>
    obtain ⟨x, h1, h2⟩ := Option.map_eq_some_iff.mp h
    cases h2
    obtain ⟨y, q1, q2⟩ := rr.get h1
    exact ⟨_, y, ⟨rfl, rfl⟩, q1, q2⟩
  | some i =>
    unfold popD at h
    simp only at h
    split at h
    · rename_i hz
      obtain ⟨k, h1, h2⟩ := Option.bind_eq_some_iff.mp h
      obtain ⟨x, h3, h4⟩ := Option.map_eq_some_iff.mp h2
      cases h4
      obtain ⟨y, q1, q2⟩ := rr.get h3
      exact ⟨k, y, ⟨h1, hz, rfl⟩, q1, q2⟩
    · cases h
theorem Rels.dropLast {K : PySem.W.Frag} {ds : List D} {vs : List V} (r : Rels K F R ds vs) : Rels K F R ds.dropLast vs.dropLast := by
  rw [List.dropLast_eq_take, List.dropLast_eq_take, ← r.len]
  exact r.take _
theorem Rels.erase {K : PySem.W.Frag} {ds : List D} {vs : List V} (r : Rels K F R ds vs) (k : Nat) : Rels K F R (ds.eraseIdx k) (vs.eraseIdx k) := by
  rw [List.eraseIdx_eq_take_drop_succ, List.eraseIdx_eq_take_drop_succ]
  exact (r.take _).app (r.drop _)
/-- a shared list is written -/
theorem StOk.put {K : PySem.W.Frag} {n : Nat} {a : Addr} {ds : List D} {vs : List V} (so : StOk K F R H st) (ha : R[n]? = some a) (rr : Rels K F R ds vs) : StOk K F R (upd H a (.lst vs)) (st.set n (.lst ds)) where
  same := fun b u e => by
    have : b ≠ a := fun h => by
      have := so.free a (List.mem_of_getElem? ha)
      rw [← h, e] at this; cases this
    rw [upd_ne this]
    exact so.same b u e
  len := by rw [List.length_set]; exact so.len
  nd := so.nd
  free := so.free
  obj := fun k o b h1 h2 => by
    by_cases e : n = k
    · subst e
      rw [ha] at h2
      cases h2
      by_cases hn : n < st.length
      · rw [List.getElem?_set_self hn] at h1
        cases h1
        exact ⟨vs, upd_same, rr⟩
      · rw [List.getElem?_eq_none (by simpa using hn)] at h1; cases h1
    · rw [List.getElem?_set_ne e] at h1
      have hb : b ≠ a := fun hb => by
        subst hb
        have h3 := (List.getElem?_eq_some_iff.mp ha).1
        have h4 := (List.getElem?_eq_some_iff.mp h2).1
        exact e ((List.getElem?_inj h3 so.nd).mp (by rw [ha, h2]))
      have q := so.obj k o b h1 h2
      cases o with
      | lst es =>
        obtain ⟨ws, e1, e2⟩ := q
        exact ⟨ws, by rw [upd_ne hb]; exact e1, e2⟩
theorem Grow.put {a : Addr} {o : HO} (hh : ∃ u, H a = some u) (ha : a ∈ R) : Grow F R H F R (upd H a o) where
  sameF := Same.refl _
  pre := List.prefix_rfl
  keep := fun b u e nr => by
    have : b ≠ a := fun h => nr (h ▸ ha)
    rw [upd_ne this]; exact e
  back := fun b e => by
    by_cases hb : b = a
    · subst hb; rw [upd_same] at e; cases e
    · rw [upd_ne hb] at e; exact e
  newF := fun b h1 h2 => absurd h1 h2
  newR := fun b h1 h2 => absurd h1 h2
/-- the shared list and its object -/
theorem ref_obj {K : PySem.W.Frag} {n : Nat} {v : V} {ds : List D} (so : StOk K F R H st) (r : RelT K F R H (.ref n) v) (h : st[n]? = some (.lst ds)) : ∃ a vs, v = .ref a ∧ R[n]? = some a ∧ H a = some (.lst vs) ∧ Rels K F R ds vs := by
  obtain ⟨a, h1, e⟩ := r.ref
  obtain ⟨vs, h2, h3⟩ : ORel K F R H a (.lst ds) := so.obj n _ a h h1
  exact ⟨a, vs, e, h1, h2, h3⟩
theorem popR_fin {K : PySem.W.Frag} {m : Md} {x : D} {k : Option Int} {v : V} {Q : VK} {W : WX} {σ : L2.St} {H0 : Hp} (hm : m ≠ .f) (so : StOk K F R H st) (r : RelT K F R H x v)
    (q : After K W σ F R H (popRD x k st) fun d _ F' R' H' => okM m d ∧ ∀ v, RR m K H0 F' R' H' d v → Q v H') :
    ∃ a vs y j, v = .ref a ∧ H a = some (.lst vs) ∧ (match k with | none => j = vs.length - 1 | some i => ixN vs.length i = some j ∧ vs.length ≤ big) ∧ vs[j]? = some y ∧ Q y (upd H a (.lst (match k with | none => vs.dropLast | some _ => vs.eraseIdx j))) := by
  cases x <;> first | exact q.elim | skip
  rename_i n
  unfold popRD at q
  simp only at q
  cases e1 : st[n]? with
  | none => rw [e1] at q; exact q.elim
  | some o =>
    cases o with
    | lst ds =>
      rw [e1] at q
      simp only at q
      obtain ⟨a, vs, rfl, h1, h2, h3⟩ := ref_obj so r e1
      cases e2 : popD ds k with
      | none => rw [e2] at q; exact q.elim
      | some p =>
        obtain ⟨d, rest⟩ := p
        rw [e2] at q
        replace q : After K W σ F R H (.ok d (st.set n (.lst rest))) _ := q
        obtain ⟨j, y, p1, p2, p3⟩ := popI_r h3 e2
        have fin : ∀ ws, Rels K F R rest ws → Q y (upd H a (.lst ws)) := fun ws rw' => by
          refine (q F R _ (Grow.put ⟨_, h2⟩ (List.mem_of_getElem? h1)) (so.put h1 rw')).2 y ?_
          cases m with
          | s => exact p3
          | t => exact .inl p3
          | f => exact absurd rfl hm
        refine ⟨a, vs, y, j, rfl, h2, ?_, p2, ?_⟩
        · cases k with
          | none => rw [← h3.len]; exact p1.1
          | some i => rw [← h3.len]; exact ⟨p1.1, p1.2.1⟩
        · cases k with
          | none =>
            obtain ⟨_, rfl⟩ := p1
            exact fin _ h3.dropLast
          | some i =>
            obtain ⟨_, _, rfl⟩ := p1
            exact fin _ (h3.erase j)
theorem ref_list {K : PySem.W.Frag} {x : D} {v : V} (so : StOk K F R H st) (r : RelT K F R H x v) (h : isRef x = true) : tyV K "list" v H := by
  cases x <;> first | exact ff h | skip
  obtain ⟨a, h1, rfl⟩ := r.ref
  obtain ⟨o, ho⟩ := so.at_some h1
  cases o with
  | lst ds =>
    obtain ⟨vs, h2, _⟩ : ORel K F R H a (.lst ds) := so.obj _ _ a ho h1
    exact .inl ⟨rfl, vs, SqL.of h2⟩
theorem len_line {X : Cx} {n : Nat} {i : Int} {k : Nat} (hn : n ≤ big) (h : ixN n i = some k) : -(2 ^ 63) ≤ i ∧ i < 2 ^ 63 ∧ seqIndex? i n = some k := by
  obtain ⟨h1, h2, h3, h4⟩ := L2.ixN_seq h
  have : (big : Nat) = 16777216 := rfl
  exact ⟨by omega, by omega, h1⟩
theorem snd_popR {a : Ex} {i : Op} (ha : Snd T cl a) (hi : ∀ k, i = .so k → Snd T cl k) : Snd T cl (.popR a i) := Snd.mkT (fun {X M EX W} c e h m hg => by
    obtain ⟨o, ap, xs, p, rfl, h0, h1, h2, h3, h4⟩ := mat_popR h
    have hm : m ≠ .f := fun e => by subst e; exact ff hg
    have hb := fun n => plain_base (n := n) (env := X.env) h1
    rcases h4 with ⟨rfl, rfl⟩ | ⟨k, y, rfl, rfl, h5⟩
    · refine pe_imp (pe_bm0 PySem.F.plainAttrs_list PySem.F.slot_list_pop PySem.F.type_list_pop mt_pop (ha.v c h2 .t rfl) (hb _) h0) fun σ H Q ⟨F, R, env, st, so, eo, q⟩ => ?_
      refine ⟨F, R, env, st, so, eo, q.bind.imp fun d st1 F1 R1 H1 g1 so1 q1 => ⟨trivial, fun v hv => ?_⟩⟩
      split at q1
      · rename_i hr
        obtain ⟨a, vs, y, j, rfl, p1, rfl, p3, p4⟩ := popR_fin hm so1 hv q1
        exact ⟨ref_list so1 hv hr, a, vs, y, rfl, rfl, p1, p3, p4⟩
      · exact q1.elim
    · have hk := hi k rfl
      have st5 := star_each (es := []) (env := X.env) (mat_ns h5)
      refine pe_imp (pe_bm PySem.F.plainAttrs_list PySem.F.slot_list_pop PySem.F.type_list_pop mt_popAt (ha.v c h2 .t rfl) (pa_cons (hk.v c h5 .t rfl) pa_nil st5) (hb _) (by rw [st5]; rfl) h0 st5 rfl) fun σ H Q ⟨F, R, env, st, so, eo, q⟩ => ?_
      refine ⟨F, R, env, st, so, eo, q.bind.imp fun d st1 F1 R1 H1 g1 so1 q1 => ⟨trivial, fun v hv => ?_⟩⟩
      split at q1
      · rename_i hr
        refine ⟨ref_list so1 hv hr, F1, R1, env, st1, so1, eo.grow g1, q1.bind.bind.imp fun x st2 F2 R2 H2 g2 so2 q2 => ⟨trivial, fun w hw => ?_⟩⟩
        obtain ⟨j, e1, q3⟩ := q2.bind.ofO
        cases x <;> first | (cases e1; done) | skip
        cases e1
        have q4 := After.here (q3 F2 R2 H2 .refl so2) so2
        obtain ⟨a, vs, y, j, rfl, p1, p2, p3, p4⟩ := popR_fin hm so2 (RelT.grow hv g2) q4
        obtain ⟨b1, b2, b3⟩ := len_line (X := X) p2.2 p2.1
        exact ⟨a, vs, _, j, y, rfl, by rw [RelT.int hw], p1, b1, b2, b3, p3, p4⟩
      · exact q1.elim)
  (fun {M e} h => by obtain ⟨o, ap, xs, p, rfl, _⟩ := mat_popR h; rfl) rfl
/-! ### o.index(x) -/
theorem findD_at {x : D} : ∀ {xs : List D} {n : Nat}, findD x xs = some n → ∃ y, xs[n]? = some y ∧ eqv y x = true ∧ ∀ m z, m < n → xs[m]? = some z → eqv z x = false
  | [], n, h => by cases h
  | y :: ys, n, h => by
    unfold findD at h
    split at h
    · rename_i hy
      cases h
      exact ⟨y, rfl, hy, fun m z hm _ => absurd hm (Nat.not_lt_zero _)⟩
    · rename_i hy
      obtain ⟨k, h1, rfl⟩ := Option.map_eq_some_iff.mp h
      obtain ⟨z, p1, p2, p3⟩ := findD_at h1
      refine ⟨z, by simpa using p1, p2, fun m w hm hw => ?_⟩
      cases m with
      | zero =>
        have hw : y = w := by simpa using hw
        subst hw
        simpa using hy
      | succ m => exact p3 m w (by omega) (by simpa using hw)
theorem toPs_get : ∀ {ds : List D} {i : Nat} {d : D}, ds[i]? = some d → (toPs ds)[i]? = some (toP d)
  | x :: xs, 0, d, h => by cases h; rfl
  | x :: xs, i + 1, d, h => by
    show (toPs xs)[i]? = _
    exact toPs_get (by simpa using h)
theorem toPs_back : ∀ {ds : List D} {i : Nat} {p : PyData}, (toPs ds)[i]? = some p → ∃ d, ds[i]? = some d ∧ p = toP d
  | x :: xs, 0, d, h => by cases h; exact ⟨x, rfl, rfl⟩
  | x :: xs, i + 1, d, h => by
    obtain ⟨y, h1, h2⟩ := toPs_back (ds := xs) (i := i) h
    exact ⟨y, by simpa using h1, h2⟩
theorem okDs_get : ∀ {ds : List D} {i : Nat} {d : D}, okDs ds = true → ds[i]? = some d → okD d = true
  | x :: xs, i, d, h, e => by
    unfold okDs at h
    obtain ⟨h1, h2⟩ := b2 h
    cases i with
    | zero => cases e; exact h1
    | succ i => exact okDs_get (i := i) h2 (by simpa using e)
def rIxT0 (K : PySem.W.Frag) : V → List V → Hp → VK → Prop := fun x xs H Q => ∃ (a : Addr) (ns : List Int) (i : Int), x = V.ref a ∧ xs = [.int i] ∧ SqT K H a (ns.map V.int) ∧ i ∈ ns ∧ Q (.int ((ns.idxOf i : Nat) : Int)) H
theorem mt_tupI {X : Cx} : MtR X "tuple.index" (rIxT0 X.K) := by
  intro pins s σ H x xs v us Q I rx rs ⟨a, ns, i, e1, e2, hs, hi, q⟩
  subst e1 e2
  cases rx
  obtain ⟨u, rfl, t, rfl⟩ := vals1 rs
  obtain ⟨its, r, pl, hz⟩ := I.tuple hs
  refine PySem.SeqAt.call_tuple_index pl ⟨by rw [← r.length, List.length_map], fun j h1 h2 => ?_⟩ hi ⟨.int _, H, I.tok _, ⟨_, rfl⟩, q⟩
  obtain ⟨w, hw, rw'⟩ := r.get (i := j) (x := .int ns[j]) (by simp [h2])
  have e : its[j] = w := by
    have := (List.getElem?_eq_some_iff.mp hw).2
    exact this
  rw [e]
  have := eqAt_V (A := X.A.in1) (s := s) rw' (show RelV (.int i) (.int i t) from ⟨t, rfl⟩) rfl rfl
  have e3 : eqV (.int ns[j]) (.int i) = decide (ns[j] = i) := by
    show (ns[j] == i) = _
    by_cases h : ns[j] = i <;> simp [h]
  rw [e3] at this
  exact this
/-- a list's index, by the evaluator's value -/
theorem tyL {K : PySem.W.Frag} {d : D} {v : V} {ds : List D} (so : StOk K F R H st) (r : RelT K F R H d v) (h : derefD st d = .lst ds) : tyV K "list" v H := by
  obtain ⟨a, vs, rfl, h1, _⟩ := deref_lst so r h
  exact .inl ⟨rfl, vs, SqL.of h1⟩
theorem strs_rel {K : PySem.W.Frag} {F : Hp} {R : List Addr} : ∀ {xs : List D} {zs : List Str} {vs : List V}, asStrs xs = some zs → Rels K F R xs vs → vs = zs.map V.str
  | [], _, _, h, r => by cases h; unfold Rels at r; exact r
  | x :: xs, zs, vs, h, r => by
    cases x <;> first | (cases h; done) | skip
    obtain ⟨ws, h1, rfl⟩ := Option.map_eq_some_iff.mp h
    unfold Rels at r
    obtain ⟨v, us, rfl, h2, h3⟩ := r
    unfold Rel at h2
    rw [h2, strs_rel h1 h3]
    rfl
theorem rels_strs {K : PySem.W.Frag} {F : Hp} {R : List Addr} : ∀ {zs : List Str}, Rels K F R (zs.map D.str) (zs.map V.str)
  | [] => by unfold Rels; rfl
  | z :: zs => by
    rw [List.map_cons, List.map_cons]
    unfold Rels
    exact ⟨_, _, rfl, by unfold Rel; rfl, rels_strs⟩
theorem sems_one {cl : Cl} {b : Ex} {e : Enw} {s : Sto} : sems T cl (.cons b .nil) e s = ((sem T cl b).v e s).bind fun x s1 => .ok [x] s1 := by
  simp only [sems]
  cases (sem T cl b).v e s <;> rfl
theorem bind_bind {α β γ : Type} {r : Res α} {f : α → Sto → Res β} {g : β → Sto → Res γ} : (r.bind f).bind g = r.bind fun x s => (f x s).bind g := by cases r <;> rfl
theorem snd_join {a b : Ex} (ha : Snd T cl a) (hb : Snd T cl b) : Snd T cl (.mt .join a (.cons b .nil)) := Snd.mkT (fun {X M EX W} c e h md hg => by
    obtain ⟨o, ap, xs, p, rfl, h0, h1, h2, h3, h4, h5⟩ := mat_mt h
    obtain ⟨y, r, rfl, k1, k2⟩ := mats_cons h3
    cases mats_nil k2
    have st5 := star_each (es := []) (env := X.env) (mat_ns k1)
    refine pe_imp (pe_join (ha.v c h2 .t rfl) (hb.v c k1 .t rfl) st5 (plain_base h1) h0) fun σ H Q ⟨F, R, env, st, so, eo, q⟩ => ?_
    refine ⟨F, R, env, st, so, eo, q.bind.imp fun d st1 F1 R1 H1 g1 so1 q1 => ⟨trivial, fun v hv => ?_⟩⟩
    cases d <;> first | exact q1.elim | skip
    rename_i x
    replace q1 : After X.K W σ F1 R1 H1 ((sems T cl (.cons b .nil) env st1).bind fun ds s2 => ofO (mtD s2 .join (.str x) ds) s2) _ := q1
    rw [sems_one, bind_bind] at q1
    refine ⟨⟨x, hv.str⟩, F1, R1, env, st1, so1, eo.grow g1, q1.bind.imp fun d st2 F2 R2 H2 g2 so2 q2 => ⟨trivial, fun w hw => ?_⟩⟩
    obtain ⟨z, hz, q3⟩ := q2.ofO
    obtain ⟨q4, q5⟩ := Fin.of (W := W) (σ := σ) so2 (g1.trans g2).back q3
    obtain ⟨us, e1, hz⟩ := Option.bind_eq_some_iff.mp hz
    obtain ⟨zs, e2, hz⟩ := Option.bind_eq_some_iff.mp hz
    obtain ⟨k3, rfl⟩ := ite_some hz
    obtain ⟨a', vs, rfl, f1, f2⟩ := seqD_r so2 hw e1
    cases strs_rel e2 f2
    exact ⟨x, a', zs, hv.str, rfl, f1, k3, q5.str so2 q4⟩)
  (fun {M e} h => by obtain ⟨o, ap, xs, p, rfl, _⟩ := mat_mt h; rfl) rfl
theorem snd_split {a b : Ex} (ha : Snd T cl a) (hb : Snd T cl b) : Snd T cl (.mt .split a (.cons b .nil)) := Snd.mkT (fun {X M EX W} c e h md hg => by
    obtain ⟨o, ap, xs, p, rfl, h0, h1, h2, h3, h4, h5⟩ := mat_mt h
    obtain ⟨y, r, rfl, k1, k2⟩ := mats_cons h3
    cases mats_nil k2
    have st5 := star_each (es := []) (env := X.env) (mat_ns k1)
    refine pe_imp (pe_split (ha.v c h2 .t rfl) (hb.v c k1 .t rfl) st5 (plain_base h1) h0) fun σ H Q ⟨F, R, env, st, so, eo, q⟩ => ?_
    refine ⟨F, R, env, st, so, eo, q.bind.imp fun d st1 F1 R1 H1 g1 so1 q1 => ⟨trivial, fun v hv => ?_⟩⟩
    cases d <;> first | exact q1.elim | skip
    rename_i x
    replace q1 : After X.K W σ F1 R1 H1 ((sems T cl (.cons b .nil) env st1).bind fun ds s2 => ofO (mtD s2 .split (.str x) ds) s2) _ := q1
    rw [sems_one, bind_bind] at q1
    refine ⟨⟨x, hv.str⟩, F1, R1, env, st1, so1, eo.grow g1, q1.bind.imp fun d st2 F2 R2 H2 g2 so2 q2 => ⟨trivial, fun w hw => ?_⟩⟩
    obtain ⟨z, hz, q3⟩ := q2.ofO
    obtain ⟨q4, q5⟩ := Fin.of (W := W) (σ := σ) so2 (g1.trans g2).back q3
    cases d <;> first | (cases hz; done) | skip
    obtain ⟨k3, rfl⟩ := ite_some hz
    exact ⟨x, _, hv.str, by rw [hw.str], k3.1, by rw [← big_line]; exact k3.2, q5.lst so2 rels_strs⟩)
  (fun {M e} h => by obtain ⟨o, ap, xs, p, rfl, _⟩ := mat_mt h; rfl) rfl
theorem snd_mt {m : Mt} {a : Ex} {es : Es} (hm : m = .index) (ha : Snd T cl a) (hs : SndA T cl es) : Snd T cl (.mt m a es) := Snd.mkT (fun {X M EX W} c e h md hg => by
    obtain ⟨o, ap, xs, p, rfl, h0, h1, h2, h3, h4, h5⟩ := mat_mt h
    subst hm
    have hmd : md ≠ .f := fun e => by subst e; exact ff hg
    have hu := c.units
    have hA := hs.a c h3 .t rfl
    cases es with
    | nil => cases h4
    | cons b es =>
      obtain ⟨y, r, rfl, k1, k2⟩ := mats_cons h3
      cases es with
      | cons _ _ => exact absurd h4 (by simp [Es.len])
      | nil =>
        cases mats_nil k2
        have st5 := star_each (es := []) (env := X.env) (mat_ns k1)
        refine pe_imp (pe_bm PySem.F.plainAttrs_list PySem.F.slot_list_index PySem.F.type_list_index (mt_indexD (by omega)) (ha.v c h2 .t rfl) hA (plain_base h1) (by rw [st5]; rfl) h0 st5 rfl) fun σ H Q ⟨F, R, env, st, so, eo, q⟩ => ?_
        refine ⟨F, R, env, st, so, eo, q.bind.imp fun d st1 F1 R1 H1 g1 so1 q1 => ⟨trivial, fun v hv => ?_⟩⟩
        replace q1 := (show (mtB .index st1 d) = isLst st1 d from rfl) ▸ q1
        unfold isLst at q1
        cases e1 : derefD st1 d with
        | lst ds =>
          rw [e1] at q1
          replace q1 : After X.K W σ F1 R1 H1 ((sems T cl (.cons b .nil) env st1).bind fun ds s2 => ofO (mtD s2 .index d ds) s2) _ := q1
          refine ⟨tyL so1 hv e1, F1, R1, env, st1, so1, eo.grow g1, q1.bind.imp fun xs st2 F2 R2 H2 g2 so2 q2 => fun vs hvs => ?_⟩
          obtain ⟨z, hz, q3⟩ := q2.ofO
          obtain ⟨q4, q5⟩ := Fin.of (W := W) (σ := σ) so2 (g1.trans g2).back q3
          rcases xs with _ | ⟨x, _ | ⟨x', xs⟩⟩ <;> first | (cases hz; done) | skip
          obtain ⟨w, rfl, r1⟩ := one_arg hvs
          unfold mtD at hz
          simp only at hz
          cases e2 : derefD st2 d with
          | lst es =>
            rw [e2] at hz
            replace hz : (if (shapedD x && shapedD (.lst es)) = true then (findD x es).map (fun (n : Nat) => D.int (n : Int)) else none) = some z := hz
            obtain ⟨k3, hz⟩ : (shapedD x && shapedD (.lst es)) = true ∧ (findD x es).map (fun (n : Nat) => D.int (n : Int)) = some z := by
              by_cases hh : (shapedD x && shapedD (.lst es)) = true
              · rw [if_pos hh] at hz; exact ⟨hh, hz⟩
              · rw [if_neg hh] at hz; cases hz
            obtain ⟨k3, k4⟩ := b2 k3
            obtain ⟨n, k5, rfl⟩ := Option.map_eq_some_iff.mp hz
            obtain ⟨y', p1, p2, p3⟩ := findD_at k5
            have dl := RelT.dp so2 (RelT.grow hv g2) (by rw [e2]; exact (b2 k4).1)
            rw [e2] at dl
            obtain ⟨a, vs, rfl, f1, f2⟩ := deref_lst so2 (RelT.grow hv g2) e2
            have okx := (b2 k3).1
            have okes : okDs es = true := (b2 k4).1
            refine ⟨a, w, toP x, toPs es, n, toP y', rfl, rfl, dl, r1.dp' so2 okx, shaped_toP (d := .lst es) k4, shaped_toP k3, toPs_get p1, by rw [toP_eqv (okDs_get okes p1) okx]; exact p2, fun m z' hm hz' => ?_, q5.int so2 q4⟩
            obtain ⟨d', f3, rfl⟩ := toPs_back hz'
            rw [toP_eqv (okDs_get okes f3) okx]
            exact p3 m d' hm f3
          | _ => rw [e2] at hz; cases hz
        | _ => rw [e1] at q1; exact q1.elim)
  (fun {M e} h => by obtain ⟨o, ap, xs, p, rfl, _⟩ := mat_mt h; rfl) rfl
theorem snd_gix {x : Str} {k : Ex} (hk : Snd T cl k) : Snd T cl (.gix x k) := Snd.mkT (fun {X M EX W} c e h m hg => by
    obtain ⟨q, ap, y, p, rfl, h0, h1, h2, h3⟩ := mat_gix h
    obtain ⟨g1, g2⟩ := c.glo h1
    have st5 := star_each (es := []) (env := X.env) (mat_ns h2)
    cases e1 : T.gt x with
    | none =>
      refine ⟨fun pins s σ H Q I ⟨F, R, env, st, so, eo, q⟩ => ?_⟩
      dsimp only [sem, Nb.mkT] at q
      rw [e1] at q
      exact q.elim
    | some ns =>
      obtain ⟨a, o, k1, k2, k3, k4, k5⟩ := c.gti x ns e1
      refine pe_imp (pe_bm PySem.F.plainAttrs_tuple PySem.F.slot_tuple_index PySem.F.type_tuple_index mt_tupI (pe_glob (v := .ref a) g1 k1 rfl g2) (pa_cons (hk.v c h2 .t rfl) pa_nil st5) rfl (by rw [st5]; rfl) h0 st5 rfl) fun σ H Q ⟨F, R, env, st, so, eo, q⟩ => ?_
      dsimp only [sem, Nb.mkT] at q
      rw [e1] at q
      refine ⟨.inr (.inl ⟨rfl, o, k3, k4, k5⟩), F, R, env, st, so, eo, q.bind.imp fun d st1 F1 R1 H1 g1 so1 q1 => ⟨trivial, fun v hv => ?_⟩⟩
      obtain ⟨z, hz, q3⟩ := q1.ofO
      obtain ⟨q4, q5⟩ := Fin.of (W := W) (σ := σ) so1 g1.back q3
      cases d <;> first | (cases hz; done) | skip
      obtain ⟨f1, rfl⟩ := ite_some hz
      exact ⟨a, ns, _, rfl, by rw [RelT.int hv], k2 _, by simpa using f1, q5.int so1 q4⟩)
  (fun {M e} h => by obtain ⟨q, ap, y, p, rfl, _⟩ := mat_gix h; rfl) rfl

/-! ### a field of the caught error -/
theorem look_zip {K : PySem.W.Frag} {f : Str} {d : D} : ∀ {fs : List (Str × D)} {vs : List V}, Rels K F R (fs.map (·.2)) vs → fs.lookup f = some d → ∃ v, ((fs.map (·.1)).zip vs).lookup f = some v ∧ Rel K F R d v
  | [], _, _, h => by cases h
  | (g, e) :: fs, vs, r, h => by
    rw [List.map_cons] at r
    unfold Rels at r
    obtain ⟨v, ws, rfl, h1, h2⟩ := r
    rw [List.lookup_cons] at h
    rw [List.map_cons, List.zip_cons_cons, List.lookup_cons]
    split at h
    · rename_i hg
      cases h
      simp only [hg]
      exact ⟨v, rfl, h1⟩
    · rename_i hg
      simp only [hg]
      exact look_zip h2 h
theorem snd_exf {i : Nat} {f : Str} : Snd T cl (.exf i f) := Snd.mkT (fun {X M EX W} c e h m hg => by
    obtain ⟨x, q, p, rfl, h1, h2, h3⟩ := mat_exf h
    have hm : m ≠ .f := fun e => by subst e; exact ff hg
    obtain ⟨v1, v2, v3⟩ := c.vis h2
    refine pe_imp (c.xf h3 rfl (pe_var (pos := q) (c.slot h1) v1 v2 v3)) fun σ H Q ⟨F, R, env, st, so, eo, q⟩ => ?_
    dsimp only [sem, Nb.mkT] at q
    cases e1 : env[i]? with
    | none => rw [e1] at q; exact q.elim
    | some s =>
      rw [e1] at q
      cases s <;> first | exact q.elim | skip
      rename_i cc fs
      have hi := (List.getElem?_eq_some_iff.mp e1).1
      have hs : i < σ.length := by rw [← eo.len]; exact hi
      obtain ⟨a, d, ev', ex, xf⟩ := eo.sl i _ σ[i] e1 (by simp [hs])
      refine ⟨.ref a, by rw [List.getElem?_eq_getElem hs, ev'], ?_⟩
      simp only at q
      split at q
      · rename_i hf
        obtain ⟨z, hz, q3⟩ := q.ofO
        obtain ⟨q4, q5⟩ := Fin.of (W := W) (σ := σ) so (fun _ h => h) q3
        rcases xf with rfl | ⟨dd, vs, f1, f2, f3, f4⟩
        · cases hz
        · obtain ⟨v, f5, f6⟩ := look_zip f4 hz
          exact ⟨a, cc, d, dd, _, v, rfl, ex, hf, f1, f3, f5, q5.val so hm f6⟩
      · exact q.elim)
  (fun {M e} h => by obtain ⟨x, q, p, rfl, _⟩ := mat_exf h; rfl) rfl
end
end Nb
end
section
set_option Elab.async false
set_option linter.all false
set_option maxRecDepth 100000
set_option maxHeartbeats 4000000
/-! NbPa: tuple(range(..)), list(range(..)) -/
namespace Nb
open PySem PySem.Spec PyProof.Rows L2
section
variable {M : Mc} {e : Expr} {T : Tb} {cl : Cl}
theorem rgParts_eq {x y : Str} {xs : List Expr} (h : rgParts e = some (x, y, xs)) : ∃ p q r s, e = .Call (.Name x p) [.Call (.Name y q) xs [] r] [] s := by
  unfold rgParts at h
  split at h <;> first | (cases h; done) | skip
  cases h
  exact ⟨_, _, _, _, rfl⟩
theorem mat_rg1 {t : Bool} {a : Ex} (h : mat M (.rg1 t a) e = true) : ∃ p q r s u, e = .Call (.Name (rgN t) p) [.Call (.Name "range" q) [u] [] r] [] s ∧ gloB M.sc (rgN t) = true ∧ gloB M.sc "range" = true ∧ mat M a u = true ∧ M.calm = true := by
  unfold mat at h
  split at h <;> first | (cases h; done) | skip
  rename_i x y u hp
  obtain ⟨p, q, r, s, rfl⟩ := rgParts_eq hp
  obtain ⟨k1, h6⟩ := b2 h
  obtain ⟨k2, h5⟩ := b2 k1
  obtain ⟨k3, h4⟩ := b2 k2
  obtain ⟨k4, h3⟩ := b2 k3
  obtain ⟨h1, h2⟩ := b2 k4
  have e1 := of_decide_eq_true h1
  have e3 := of_decide_eq_true h3
  subst e1 e3
  exact ⟨p, q, r, s, u, rfl, h2, h4, h5, h6⟩
theorem mat_rg2 {t : Bool} {a b : Ex} (h : mat M (.rg2 t a b) e = true) : ∃ p q r s u v, e = .Call (.Name (rgN t) p) [.Call (.Name "range" q) [u, v] [] r] [] s ∧ gloB M.sc (rgN t) = true ∧ gloB M.sc "range" = true ∧ mat M a u = true ∧ mat M b v = true ∧ M.calm = true := by
  unfold mat at h
  split at h <;> first | (cases h; done) | skip
  rename_i x y u v hp
  obtain ⟨p, q, r, s, rfl⟩ := rgParts_eq hp
  obtain ⟨k1, h6⟩ := b2 h
  obtain ⟨k1', h7⟩ := b2 k1
  obtain ⟨k2, h5⟩ := b2 k1'
  obtain ⟨k3, h4⟩ := b2 k2
  obtain ⟨k4, h3⟩ := b2 k3
  obtain ⟨h1, h2⟩ := b2 k4
  have e1 := of_decide_eq_true h1
  have e3 := of_decide_eq_true h3
  subst e1 e3
  exact ⟨p, q, r, s, u, v, rfl, h2, h4, h5, h7, h6⟩
theorem rels_rngL {K : PySem.W.Frag} {F : Hp} {R : List Addr} {a : Int} : ∀ {n : Nat}, Rels K F R (rngL a n) ((List.range n).map fun (i : Nat) => V.int (a + (i : Int)))
  | 0 => Rels.nil
  | n + 1 => by
    unfold rngL
    rw [List.range_succ, List.map_append, List.map_append]
    exact Rels.app rels_rngL (Rels.one (by unfold Rel; rfl))
theorem snd_rg1 {t : Bool} {a : Ex} (ha : Snd T cl a) : Snd T cl (.rg1 t a) := Snd.mkT (fun {X M EX W} c e h m hg => by
    obtain ⟨p, q, r, s, u, rfl, h1, h2, h3, h4⟩ := mat_rg1 h
    obtain ⟨g1, g2⟩ := c.glo h1
    obtain ⟨g3, g4⟩ := c.glo h2
    have st5 := star_each (es := []) (env := X.env) (mat_ns h3)
    have hP := prg_1 (p := q) (pos := r) g3 (c.blt _ (by decide)) (ha.v c h3 .t rfl) st5
    have fin : ∀ {tt : TE}, PE X (.Call (.Name (rgN t) p) [.Call (.Name "range" q) [u] [] r] [] s) tt → (∀ σ H Q, tE m X.K EX W (sem T cl (.rg1 t a)).v σ H Q → tt σ H Q) → PE X (.Call (.Name (rgN t) p) [.Call (.Name "range" q) [u] [] r] [] s) (tE m X.K EX W (sem T cl (.rg1 t a)).v) := fun h i => pe_imp h i
    cases t with
    | true =>
      refine fin (pe_tupRg (c.calm h4) g1 (c.blt _ (by decide)) hP rfl) fun σ H Q ⟨F, R, env, st, so, eo, q⟩ => ?_
      refine ⟨F, R, env, st, so, eo, q.bind.imp fun d st1 F1 R1 H1 g1 so1 q1 => ⟨trivial, fun v hv => ?_⟩⟩
      obtain ⟨z, hz, q3⟩ := q1.ofO
      obtain ⟨q4, q5⟩ := Fin.of (W := W) (σ := σ) so1 g1.back q3
      obtain ⟨es, he, rfl⟩ := Option.map_eq_some_iff.mp hz
      obtain ⟨fs, e2, e3⟩ := Option.bind_eq_some_iff.mp he
      obtain ⟨rfl, e4⟩ := few_some e3
      cases d <;> first | (cases e2; done) | skip
      rename_i n
      obtain ⟨k3, rfl⟩ := ite_some e2
      unfold rngL big at e4
      rw [List.length_map, List.length_range] at e4
      refine ⟨n, hv.int, ⟨by omega, by omega, by omega, by omega, by omega⟩, fun qq hq => ?_⟩
      have := q5.tup so1 (okM_tup q4) (vs := rgV 0 n) (by unfold rgV; rw [Int.sub_zero]; exact rels_rngL)
      exact this qq hq
    | false =>
      refine fin (pe_listRg (c.calm h4) g1 (c.blt _ (by decide)) hP rfl) fun σ H Q ⟨F, R, env, st, so, eo, q⟩ => ?_
      refine ⟨F, R, env, st, so, eo, q.bind.imp fun d st1 F1 R1 H1 g1 so1 q1 => ⟨trivial, fun v hv => ?_⟩⟩
      obtain ⟨z, hz, q3⟩ := q1.ofO
      obtain ⟨q4, q5⟩ := Fin.of (W := W) (σ := σ) so1 g1.back q3
      obtain ⟨es, he, rfl⟩ := Option.map_eq_some_iff.mp hz
      obtain ⟨fs, e2, e3⟩ := Option.bind_eq_some_iff.mp he
      obtain ⟨rfl, e4⟩ := few_some e3
      cases d <;> first | (cases e2; done) | skip
      rename_i n
      obtain ⟨k3, rfl⟩ := ite_some e2
      unfold rngL big at e4
      rw [List.length_map, List.length_range] at e4
      refine ⟨n, hv.int, ⟨by omega, by omega, by omega, by omega, by omega⟩, fun qq hq => ?_⟩
      have := q5.lst so1 (vs := rgV 0 n) (by unfold rgV; rw [Int.sub_zero]; exact rels_rngL)
      exact this qq hq)
  (fun {M e} h => by obtain ⟨p, q, r, s, u, rfl, _⟩ := mat_rg1 h; rfl) rfl
theorem snd_rg2 {t : Bool} {a b : Ex} (ha : Snd T cl a) (hb : Snd T cl b) : Snd T cl (.rg2 t a b) := Snd.mkT (fun {X M EX W} c e h m hg => by
    obtain ⟨p, q, r, s, u, v, rfl, h1, h2, h3, h5, h4⟩ := mat_rg2 h
    obtain ⟨g1, g2⟩ := c.glo h1
    obtain ⟨g3, g4⟩ := c.glo h2
    have st5 := star_each (es := []) (env := X.env) (mat_ns h5)
    have st6 := star_each (es := [v]) (env := X.env) (mat_ns h3)
    have hP := prg_2 (p := q) (pos := r) g3 (c.blt _ (by decide)) (ha.v c h3 .t rfl) (hb.v c h5 .t rfl) st6 st5 (by rw [st5]; rfl)
    have key : ∀ σ H Q, tE m X.K EX W (sem T cl (.rg2 t a b)).v σ H Q → tRg2 (tE .t X.K EX W (sem T cl a).v) (tE .t X.K EX W (sem T cl b).v) σ H fun i j H1 => RgOk i j ∧ ∀ qq, H1 qq = none → Q (.ref qq) (upd H1 qq (if t then .tup (rgV i j) else .lst (rgV i j))) := fun σ H Q ⟨F, R, env, st, so, eo, q⟩ => by
      refine ⟨F, R, env, st, so, eo, q.bind.imp fun d st1 F1 R1 H1 g1 so1 q1 => ⟨trivial, fun v hv => ⟨F1, R1, env, st1, so1, eo.grow g1, q1.bind.imp fun d2 st2 F2 R2 H2 g2 so2 q2 => ⟨trivial, fun v2 hv2 => ?_⟩⟩⟩⟩
      obtain ⟨z, hz, q3⟩ := q2.ofO
      obtain ⟨q4, q5⟩ := Fin.of (W := W) (σ := σ) so2 (g1.trans g2).back q3
      obtain ⟨es, he, rfl⟩ := Option.map_eq_some_iff.mp hz
      obtain ⟨fs, e2, e3⟩ := Option.bind_eq_some_iff.mp he
      obtain ⟨rfl, e4⟩ := few_some e3
      cases d <;> first | (cases e2; done) | skip
      cases d2 <;> first | (cases e2; done) | skip
      rename_i n n2
      obtain ⟨k3, rfl⟩ := ite_some e2
      unfold rngL big at e4
      rw [List.length_map, List.length_range] at e4
      refine ⟨n, n2, hv.int, hv2.int, ⟨by omega, by omega, by omega, by omega, by omega⟩, fun qq hq => ?_⟩
      cases t with
      | true => exact q5.tup so2 (okM_tup q4) (vs := rgV n n2) rels_rngL qq hq
      | false => exact q5.lst so2 (vs := rgV n n2) rels_rngL qq hq
    cases t with
    | true => exact pe_imp (pe_tupRg (p := p) (c.calm h4) g1 (c.blt _ (by decide)) hP rfl) key
    | false => exact pe_imp (pe_listRg (p := p) (c.calm h4) g1 (c.blt _ (by decide)) hP rfl) key)
  (fun {M e} h => by obtain ⟨p, q, r, s, u, v, rfl, _⟩ := mat_rg2 h; rfl) rfl
end
end Nb
end
section
set_option Elab.async false
set_option linter.all false
set_option maxRecDepth 100000
set_option maxHeartbeats 4000000
/-! NbQ: the state of a def's body, small statements -/
namespace Nb
open PySem PySem.Spec PyProof.Rows L2

/-- where a body began -/
structure Bs where
  F : Hp
  R : List Addr
  H : Hp
  LF : Hp
  LR : List Addr
/-- env, st, as they lie at σ, H -/
structure Sim (K : PySem.W.Frag) (EX : EXT) (B : Bs) (env : Enw) (st : Sto) (F : Hp) (R : List Addr) (H : Hp) (σ : L2.St) : Prop where
  so : StOk K F R H st
  eo : EnvOk K EX F R H env σ
  g : Grow B.F B.R B.H F R H
  lf : Same B.LF F ∧ B.LR <+: R
  nw : ∀ (i : Nat) (d : D) (a : Addr), env[i]? = some (.ow d) → σ[i]? = some (some (.ref a)) → B.H a = none
/-- what is wanted of each way out -/
def AO (K : PySem.W.Frag) (EX : EXT) (W : WX) (B : Bs) (D0 : Ends) : Out → Prop
  | .nx e s => ∀ F R H σ, Sim K EX B e s F R H σ → D0.nx σ H
  | .bk e s => ∀ F R H σ, Sim K EX B e s F R H σ → D0.bk σ H
  | .ct e s => ∀ F R H σ, Sim K EX B e s F R H σ → D0.ct σ H
  | .rt d s => ∀ F R H v, Grow B.F B.R B.H F R H → StOk K F R H s → Rel K F R d v → D0.rt v H
  | .ex c fs e s => ∀ F R H σ d, Sim K EX B e s F R H σ → XFs K F R H fs d → W (.ref (gAt K c)) d σ H
  | .bad => False
def tS (K : PySem.W.Frag) (EX : EXT) (W : WX) (f : Enw → Sto → Out) : TS := fun D0 σ H => ∃ B F R env st, Sim K EX B env st F R H σ ∧ AO K EX W B D0 (f env st)
section
variable {K : PySem.W.Frag} {EX : EXT} {W : WX} {B : Bs} {D0 : Ends} {F F' : Hp} {R R' : List Addr} {H H' : Hp} {σ : L2.St} {env : Enw} {st st' : Sto}
theorem Sim.grow (s : Sim K EX B env st F R H σ) (g : Grow F R H F' R' H') (so : StOk K F' R' H' st') : Sim K EX B env st' F' R' H' σ := ⟨so, s.eo.grow g, s.g.trans g, ⟨s.lf.1.trans g.sameF, s.lf.2.trans g.pre⟩, s.nw⟩
/-- an expression's end -/
theorem AO.so {α : Type} {r : Res α} {f : α → Sto → Out} (s : Sim K EX B env st F R H σ) (h : AO K EX W B D0 (r.so env f)) :
    After K W σ F R H r fun a st' F' R' H' => Sim K EX B env st' F' R' H' σ ∧ AO K EX W B D0 (f a st') := by
  cases r with
  | bad => exact h
  | exc c fs s1 => exact fun F' R' H' d g so x => h F' R' H' σ d (s.grow g so) x
  | ok a s1 => exact fun F' R' H' g so => ⟨s.grow g so, h⟩
theorem Sim.va {i : Nat} {d : D} {v : V} (s : Sim K EX B env st F R H σ) (r : Rel K F R d v) : Sim K EX B (env.set i (.va d)) st F R H (σ.set i (some v)) where
  so := s.so
  eo := s.eo.va r
  g := s.g
  lf := s.lf
  nw := fun j d' a h1 h2 => by
    by_cases e : i = j
    · subst e
      by_cases hi : i < env.length
      · rw [List.getElem?_set_self hi] at h1; cases h1
      · rw [List.getElem?_eq_none (by simpa using hi)] at h1; cases h1
    · rw [List.getElem?_set_ne e] at h1 h2
      exact s.nw j d' a h1 h2
/-- a slot gets an object of its own -/
theorem Sim.ow {i : Nat} {d : D} {p : Addr} {H0 : Hp} (s : Sim K EX B env st F R H σ) (h0 : B.H p = none) (hf : F p = none) (hr : p ∉ R) (ow : OwnR K F R H p d) (hn : ∀ j d', env[j]? = some (.ow d') → σ[j]? ≠ some (some (.ref p)) ∨ j = i) :
    Sim K EX B (env.set i (.ow d)) st F R H (σ.set i (some (.ref p))) where
  so := s.so
  g := s.g
  lf := s.lf
  eo := {
    len := by rw [List.length_set, List.length_set]; exact s.eo.len
    sl := fun j s' o h1 h2 => by
      by_cases e : i = j
      · subst e
        by_cases hi : i < env.length
        · rw [List.getElem?_set_self hi] at h1
          rw [List.getElem?_set_self (by rw [← s.eo.len]; exact hi)] at h2
          cases h1; cases h2
          exact ⟨p, rfl, hf, hr, ow⟩
        · rw [List.getElem?_eq_none (by simpa using hi)] at h1; cases h1
      · rw [List.getElem?_set_ne e] at h1 h2
        exact s.eo.sl j s' o h1 h2
    sep := fun a b x d' e' h1 h2 h3 h4 => by
      by_cases ea : i = a
      · subst ea
        by_cases eb : i = b
        · exact eb
        · rw [List.getElem?_set_ne eb] at h2 h4
          by_cases hi : i < σ.length
          · rw [List.getElem?_set_self hi] at h3
            cases h3
            rcases hn b e' h2 with h | h
            · exact absurd h4 h
            · exact h.symm
          · rw [List.getElem?_eq_none (by simpa using hi)] at h3; cases h3
      · by_cases eb : i = b
        · subst eb
          rw [List.getElem?_set_ne ea] at h1 h3
          by_cases hi : i < σ.length
          · rw [List.getElem?_set_self hi] at h4
            cases h4
            rcases hn a d' h1 with h | h
            · exact absurd h3 h
            · exact h
          · rw [List.getElem?_eq_none (by simpa using hi)] at h4; cases h4
        · rw [List.getElem?_set_ne ea] at h1 h3
          rw [List.getElem?_set_ne eb] at h2 h4
          exact s.eo.sep a b x d' e' h1 h2 h3 h4 }
  nw := fun j d' a h1 h2 => by
    by_cases e : i = j
    · subst e
      by_cases hi : i < σ.length
      · rw [List.getElem?_set_self hi] at h2
        cases h2
        exact h0
      · rw [List.getElem?_eq_none (by simpa using hi)] at h2; cases h2
    · rw [List.getElem?_set_ne e] at h1 h2
      exact s.nw j d' a h1 h2
/-- a slot's own object -/
theorem Sim.own (s : Sim K EX B env st F R H σ) {i : Nat} {d : D} (h : env[i]? = some (.ow d)) : ∃ a, σ[i]? = some (some (.ref a)) ∧ F a = none ∧ a ∉ R ∧ OwnR K F R H a d ∧ B.H a = none := by
  have hi := (List.getElem?_eq_some_iff.mp h).1
  have hs : i < σ.length := by rw [← s.eo.len]; exact hi
  obtain ⟨a, e, h1, h2, h3⟩ := s.eo.sl i _ σ[i] h (by simp [hs])
  have e2 : σ[i]? = some (some (.ref a)) := by rw [List.getElem?_eq_getElem hs, e]
  exact ⟨a, e2, h1, h2, h3, s.nw i d a h e2⟩
/-- a new object for a slot, made by an expression that began at H -/
theorem Sim.new {i : Nat} {d : D} {v : V} (s0 : Sim K EX B env st F R H σ) (s : Sim K EX B env st' F' R' H' σ) (r : RR .f K H F' R' H' d v) : Sim K EX B (env.set i (.ow d)) st' F' R' H' (σ.set i (some v)) := by
  obtain ⟨p, rfl, h0, hf, hr, ow⟩ := r
  refine s.ow (H0 := H) (s0.g.back p h0) hf hr ow fun j d' hj => .inl fun e => ?_
  obtain ⟨a, e2, _, _, ow2, _⟩ := s0.own hj
  rw [e] at e2
  cases e2
  obtain ⟨o, ho⟩ := ow2.ex
  rw [h0] at ho; cases ho
theorem env_self {i : Nat} {s : Sl} {e : Enw} (h : e[i]? = some s) : e.set i s = e := by
  apply List.ext_getElem?
  intro j
  by_cases hj : i = j
  · subst hj
    rw [List.getElem?_set_self (List.getElem?_eq_some_iff.mp h).1, h]
  · rw [List.getElem?_set_ne hj]
/-- a slot's own object is written: lists and dicts -/
def Mtb (o : HO) : Prop := (∃ xs, o = .lst xs) ∨ (∃ k, o = .dK k) ∨ ∃ k, o = .dT k
theorem OwnR.mtb {a : Addr} {d : D} (h : OwnR K F R H a d) (hd : isOwn d = true) : ∃ o, H a = some o ∧ Mtb o := by
  cases d <;> first | exact ff hd | skip
  · obtain ⟨vs, h1, _⟩ := h; exact ⟨_, h1, .inl ⟨_, rfl⟩⟩
  · obtain ⟨vs, h1, _⟩ := h; exact ⟨_, h1, .inr (.inl ⟨_, rfl⟩)⟩
  · obtain ⟨vs, h1, _⟩ := h; exact ⟨_, h1, .inr (.inr ⟨_, rfl⟩)⟩
theorem Sim.put {i : Nat} {d d' : D} {a : Addr} {o o' : HO} (s : Sim K EX B env st F R H σ) (h : env[i]? = some (.ow d)) (hs : σ[i]? = some (some (.ref a))) (ho : H a = some o) (hm : Mtb o) (ow : OwnR K F R (upd H a o') a d') :
    Sim K EX B (env.set i (.ow d')) st F R (upd H a o') σ := by
  obtain ⟨a', e, hf, hr, ow0, h0⟩ := s.own h
  rw [hs] at e
  cases e
  have so' : StOk K F R (upd H a o') st := s.so.mut hf hr
  refine ⟨so', ⟨by rw [List.length_set]; exact s.eo.len, fun j s' oo h1 h2 => ?_, fun p q x d1 d2 h1 h2 h3 h4 => ?_⟩, s.g.mut h0, s.lf, fun j d1 b h1 h2 => ?_⟩
  · by_cases e : i = j
    · subst e
      rw [List.getElem?_set_self (List.getElem?_eq_some_iff.mp h).1] at h1
      rw [hs] at h2
      cases h1; cases h2
      exact ⟨a, rfl, hf, hr, ow⟩
    · rw [List.getElem?_set_ne e] at h1
      have q := s.eo.sl j s' oo h1 h2
      cases s' with
      | no => trivial
      | va d1 => exact q
      | er c fs =>
        obtain ⟨b, dd, e1, e2, e3⟩ := q
        refine ⟨b, dd, e1, e2, ?_⟩
        rcases e3 with e3 | ⟨x, vs, f1, f2, f3, f4⟩
        · exact .inl e3
        · refine .inr ⟨x, vs, f1, f2, ?_, f4⟩
          have : x ≠ a := fun e => by
            subst e
            rw [ho] at f3
            rcases hm with ⟨xs, rfl⟩ | ⟨k, rfl⟩ | ⟨k, rfl⟩ <;> cases f3
          rw [upd_ne this]; exact f3
      | ow d1 =>
        obtain ⟨b, e1, e2, e3, e4⟩ := q
        subst e1
        have hne : b ≠ a := fun hb => by
          subst hb
          exact e (s.eo.sep i j b d d1 h h1 hs h2)
        refine ⟨b, rfl, e2, e3, ?_⟩
        cases d1 with
        | lst ds => obtain ⟨vs, g1, g2⟩ := e4; exact ⟨vs, by rw [upd_ne hne]; exact g1, g2⟩
        | dk ks ds => obtain ⟨vs, g1, g2⟩ := e4; exact ⟨vs, by rw [upd_ne hne]; exact g1, g2⟩
        | dt ks ds => obtain ⟨vs, g1, g2⟩ := e4; exact ⟨vs, by rw [upd_ne hne]; exact g1, g2⟩
        | ins c fs ds => obtain ⟨dx, vs, g1, g2⟩ := e4; exact ⟨dx, vs, by rw [upd_ne hne]; exact g1, g2⟩
        | _ => exact e4.elim
  · have back : ∀ (k : Nat) (d3 : D), (env.set i (.ow d'))[k]? = some (.ow d3) → ∃ d4, env[k]? = some (.ow d4) := fun k d3 hk => by
      by_cases e : i = k
      · subst e; exact ⟨d, h⟩
      · rw [List.getElem?_set_ne e] at hk; exact ⟨d3, hk⟩
    obtain ⟨d4, k1⟩ := back p d1 h1
    obtain ⟨d5, k2⟩ := back q d2 h2
    exact s.eo.sep p q x d4 d5 k1 k2 h3 h4
  · by_cases e : i = j
    · subst e
      rw [hs] at h2
      cases h2
      exact h0
    · rw [List.getElem?_set_ne e] at h1
      exact s.nw j d1 b h1 h2
/-- a slot's own object is frozen -/
theorem Sim.frz {i : Nat} {d : D} (s : Sim K EX B env st F R H σ) (h : env[i]? = some (.ow d)) : ∃ F', Sim K EX B (env.set i (.va d)) st F' R H σ := by
  obtain ⟨a, hs, hf, hr, ow, h0⟩ := s.own h
  obtain ⟨o, ho⟩ := ow.ex
  have sm : Same F (upd F a o) := fun b u e => by rw [upd_ne (ne_of_none e hf)]; exact e
  refine ⟨upd F a o, s.so.frz ho hf hr, ⟨by rw [List.length_set]; exact s.eo.len, fun j s' oo h1 h2 => ?_, fun p q x d1 d2 h1 h2 h3 h4 => ?_⟩, s.g.frz hf h0, ⟨s.lf.1.trans sm, s.lf.2⟩, fun j d1 b h1 h2 => ?_⟩
  · by_cases e : i = j
    · subst e
      rw [List.getElem?_set_self (List.getElem?_eq_some_iff.mp h).1] at h1
      rw [hs] at h2
      cases h1; cases h2
      exact ⟨.ref a, rfl, Own.rel ow hf ho⟩
    · rw [List.getElem?_set_ne e] at h1
      have q := s.eo.sl j s' oo h1 h2
      cases s' with
      | no => trivial
      | va d1 => obtain ⟨v, e1, e2⟩ := q; exact ⟨v, e1, e2.mono sm List.prefix_rfl⟩
      | er c fs =>
        obtain ⟨b, dd, e1, e2, e3⟩ := q
        refine ⟨b, dd, e1, e2, ?_⟩
        rcases e3 with e3 | ⟨x, vs, f1, f2, f3, f4⟩
        · exact .inl e3
        · exact .inr ⟨x, vs, f1, f2, f3, f4.mono sm List.prefix_rfl⟩
      | ow d1 =>
        obtain ⟨b, e1, e2, e3, e4⟩ := q
        subst e1
        have hne : b ≠ a := fun hb => by
          subst hb
          exact e (s.eo.sep i j b d d1 h h1 hs h2)
        exact ⟨b, rfl, by rw [upd_ne hne]; exact e2, e3, e4.mono sm List.prefix_rfl fun o h => h⟩
  · have back : ∀ (k : Nat) (d3 : D), (env.set i (.va d))[k]? = some (.ow d3) → env[k]? = some (.ow d3) := fun k d3 hk => by
      by_cases e : i = k
      · subst e
        rw [List.getElem?_set_self (List.getElem?_eq_some_iff.mp h).1] at hk
        cases hk
      · rw [List.getElem?_set_ne e] at hk; exact hk
    exact s.eo.sep p q x d1 d2 (back p d1 h1) (back q d2 h2) h3 h4
  · by_cases e : i = j
    · subst e
      rw [List.getElem?_set_self (List.getElem?_eq_some_iff.mp h).1] at h1
      cases h1
    · rw [List.getElem?_set_ne e] at h1
      exact s.nw j d1 b h1 h2
/-- a loop's own base -/
def Bs.loop (B : Bs) (F : Hp) (R : List Addr) : Bs := { B with LF := F, LR := R }
theorem Sim.loop (s : Sim K EX B env st F R H σ) : Sim K EX (B.loop F R) env st F R H σ := ⟨s.so, s.eo, s.g, ⟨Same.refl _, List.prefix_rfl⟩, s.nw⟩
theorem Sim.unloop {F1 : Hp} {R1 : List Addr} (h1 : Same B.LF F1) (h2 : B.LR <+: R1) (s : Sim K EX (B.loop F1 R1) env st F R H σ) : Sim K EX B env st F R H σ := ⟨s.so, s.eo, s.g, ⟨h1.trans s.lf.1, h2.trans s.lf.2⟩, s.nw⟩
theorem AO.loop {F1 : Hp} {R1 : List Addr} {o : Out} (h1 : Same B.LF F1) (h2 : B.LR <+: R1) (h : AO K EX W B D0 o) : AO K EX W (B.loop F1 R1) D0 o := by
  cases o with
  | nx e s => exact fun F R H σ sm => h F R H σ (sm.unloop h1 h2)
  | bk e s => exact fun F R H σ sm => h F R H σ (sm.unloop h1 h2)
  | ct e s => exact fun F R H σ sm => h F R H σ (sm.unloop h1 h2)
  | rt d s => exact h
  | ex c fs e s => exact fun F R H σ d sm => h F R H σ d (sm.unloop h1 h2)
  | bad => exact h
end
end Nb
end
section
set_option Elab.async false
set_option linter.all false
set_option maxRecDepth 100000
set_option maxHeartbeats 4000000
/-! NbR: statements of the small language against the program's text -/
namespace Nb
open PySem PySem.Spec PyProof.Rows L2

def notComp : Expr → Bool
  | .ListComp _ _ _ _ => false
  | .SetComp _ _ _ _ => false
  | .DictComp _ _ _ _ _ => false
  | _ => true
def notTupE : Expr → Bool
  | .Tuple _ _ _ => false
  | _ => true
def isLcI : Ex → Bool
  | .lc _ _ _ _ _ => true
  | .lc2 _ _ _ _ _ _ _ _ => true
  | .dcK _ _ _ _ _ => true
  | .dcT _ _ _ _ _ => true
  | _ => false
def scopeOf : Expr → Option Scope
  | .ListComp _ _ s _ => some s
  | .DictComp _ _ _ s _ => some s
  | _ => none
/-- the comprehension is stored from its own frame -/
def swB (M : Mc) (a : Ex) (x : Str) (px : Pos) (v : Expr) : Bool := isLcI a && (match M.sc.kind with | .function => true | _ => false) && lclB M.sc x && (px.line == v.pos.line) && (match scopeOf v with
  | some s => !(s.names.any fun y => y.1 == x && (y.2 == .local || y.2 == .cell))
  | none => false)
/-- a name that a block inside closes over -/
def celT (M : Mc) (x : Str) : Bool := match M.sc.names.lookup x with
  | some .cell => true
  | _ => false
/-- a tuple of names, not all of them plain locals -/
def nswT (M : Mc) : Expr → Bool
  | .Tuple es _ _ => es.any fun e => match e with
    | .Name x _ => !lclB M.sc x
    | _ => true
  | _ => false
def parTs (M : Mc) : List (Nat × Bool) → List Expr → Bool
  | [], [] => true
  | (i, _) :: is, .Name x _ :: es => slotB M.N i x && lclB M.sc x && parTs M is es
  | _, _ => false
def parEs : List (Nat × Bool) → Es → Bool
  | [], .nil => true
  | (_, o) :: is, .cons a es => (if o then frs a else stg a) && parEs is es
  | _, _ => false
def augB : Bo → Bool
  | .add => true | .sub => true | .mul => true | .band => true | .bor => true | .bxor => true
  | _ => false
def apParts : Stmt → Option (Expr × Str × List Expr)
  | .Expr (.Call (.Attribute o n ap) xs [] p) _ => if (ap.endLine == p.line) = true then some (o, n, xs) else none
  | _ => none
def nmOf : Expr → Option Str
  | .Name x _ => some x
  | _ => none
def Mc.suite (M : Mc) : Mc := { M with calm := false }
/-- not all of a display's items are constants -/
def isStarE : Expr → Bool
  | .Starred _ _ => true
  | _ => false
def parSw (vs : List Expr) : Bool := !(vs.all (foldedForSure 8)) && !(vs.all (constantsAlone 8)) && !(vs.any isStarE)
def sameLine : List Expr → Bool
  | [] => true
  | x :: xs => xs.all fun y => y.pos.line == x.pos.line
mutual
def matS (M : Mc) : Sm → Stmt → Bool
  | .asg (.nm i) a, .Assign [.Name x px] v p => slotB M.N i x && tgB M x && stg a && mat M a v && (notComp v || swB M a x px v || celT M x)
  | .asg (.tp is) a, .Assign [tg] v _ => matT M (.tp is) tg && stg a && mat M a v && notComp v && (notTupE v || nswT M tg)
  | .asgO i a, .Assign [.Name x px] v p => slotB M.N i x && tgB M x && frs a && mat M a v && (notComp v || swB M a x px v || celT M x)
  | .par ts es, .Assign [.Tuple tgs _ _] (.Tuple vs _ _) _ => (decide (ts.length = 2) || decide (ts.length = 3)) && decide ((ts.map (·.1)).Nodup) && parTs M ts tgs && parEs ts es && mats M es vs && parSw vs && sameLine tgs && M.calm &&
      (match M.sc.kind with | .function => true | _ => false)
  | .aug i o a, .AugAssign (.Name x _) op v _ => slotB M.N i x && tgB M x && boB o op && augB o && mat M a v
  | .setO i k a, .Assign [.Subscript (.Name x _) ix _] v _ => slotB M.N i x && visB M.sc x && notSl ix && mat M k ix && stg a && mat M a v && notComp v
  | .appO i a, s => (match apParts s with
      | some (.Name x _, n, [v]) => slotB M.N i x && visB M.sc x && decide (n = ("append" : Str)) && stg a && mat M a v && M.calm
      | _ => false)
  | .insO i k a, s => (match apParts s with
      | some (.Name x _, n, [u, v]) => slotB M.N i x && visB M.sc x && decide (n = ("insert" : Str)) && stg k && mat M k u && stg a && mat M a v && M.calm
      | _ => false)
  | .setR o k a, .Assign [.Subscript oe ix _] v _ => mat M o oe && notSl ix && mat M k ix && stg a && mat M a v && notComp v
  | .appR o a, s => (match apParts s with
      | some (oe, n, [v]) => decide (n = ("append" : Str)) && plainO oe && mat M o oe && stg a && mat M a v && M.calm
      | _ => false)
  | .drop a, .Expr v _ => mat M a v && notComp v
  | .ret a, .Return (some v) _ => stg a && mat M a v
  | .retN, .Return none _ => true
  | .iff c a b, .If v xs ys _ => mat M c v && matSs M a xs && matSs M b ys
  | .whl c b, .While v xs [] _ => mat M c v && matSs M b xs
  | .forr t it b, .For tg iter xs [] _ => matI M it iter tg && gdI .s it && matT M t tg && notSet iter && matSs M b xs && M.calm
  | .brk, .Break _ => true
  | .cnt, .Continue _ => true
  | .pas, .Pass _ => true
  | .rai c es, .Raise (some (.Call (.Name x _) xs [] _)) none _ => decide (x = c) && gloB M.sc x && decide (es.len = 1) && stgs es && mats M es xs && M.calm
  | .tri b hs, .Try body hnds [] [] _ => matSs M b body && matHs M hs hnds && M.calm && !hnds.isEmpty
  | _, _ => false
def matSs (M : Mc) : Ss → List Stmt → Bool
  | .nil, [] => true
  | .cons (.frz _) ss, xs => matSs M ss xs
  | .cons s ss, x :: xs => matS M s x && matSs M ss xs
  | _, _ => false
def matHs (M : Mc) : Hs → List ExceptHandler → Bool
  | .nil, [] => true
  | .cons c (some i) b hs, .ExceptHandler (some (.Name x _)) (some n) body _ :: r => decide (x = c) && gloB M.sc x && slotB M.N i n && lclB M.sc n && !body.isEmpty && matSs M.suite b body && matHs M hs r
  | _, _ => false
end
/-- what statements ask of a context besides -/
structure CtxS (T : Tb) (cl : Cl) (X : Cx) (M : Mc) (EX : EXT) (W : WX) : Prop extends Ctx T cl X M EX W where
  pas : PassesOwn (model X.prog X.w) X.A X.env X.xe
  rai : ∀ c fs, T.fld c = some fs → M.calm = true → gloB M.sc c = true → ∀ pn xe {e : Expr} {p pos : Pos} {t : TA}, PA (X.tr pn xe) [e] t → (∀ x q, e ≠ .Starred x q) → PMk (X.tr pn xe) (.Call (.Name c p) [e] [] pos) (fun σ H Q => t σ H fun vs H1 => ∃ v f, vs = [v] ∧ fs = [f] ∧ ∀ dd, H1 dd = none → Q (.ref (gAt X.K c)) (some dd) (upd H1 dd (.xd [(f, v)])))
  stk : X.stack = X.env :: X.outer
  frm : X.env.frame = some X.env.locals
  ex0 : M.calm = true → ∀ a c d, ¬ EX a c d
  exn : ∀ c c', T.hn c = true → T.hn c' = true → X.mg c' = some (.ref (gAt X.K c')) ∧ PySem.W.exmOne X.K (.ref (gAt X.K c)) (.ref (gAt X.K c')) = some (T.sub c c')
  xfc : ∀ c f, fieldB T c f = true → XfC X.K (gAt X.K c) ∧ PySem.W.findIn X.K (.ref (gAt X.K c)) f = some none
structure SndS (T : Tb) (cl : Cl) (s : Sm) : Prop where
  s : ∀ {X M EX W}, CtxS T cl X M EX W → ∀ {st}, matS M s st = true → PS X st (tS X.K EX W (exs T cl s))
structure SndSs (T : Tb) (cl : Cl) (s : Ss) : Prop where
  s : ∀ {X M EX W}, CtxS T cl X M EX W → ∀ {st}, matSs M s st = true → PSs X st (tS X.K EX W (exss T cl s))
section
variable {T : Tb} {cl : Cl} {X : Cx} {M : Mc} {EX : EXT} {W : WX}
theorem tAsg_pe {e : Expr} {te : TE} {i : Nat} {x : Str} {px p : Pos} (c : Ctx T cl X M EX W) (hs : slotB M.N i x = true) (hl : tgB M x = true) (he : PE X e te) (hn : notComp e = true) : PS X (.Assign [.Name x px] e p) (tAsg te (gName i)) := by
  refine ps_set c.nd (c.slot hs) (tg_loc c hl).1 he ?_ (tg_loc c hl).2
  cases e <;> first | rfl | exact ff hn
theorem sw_is {v : Expr} {x : Str} {px : Pos} {l : Nat} {a : Ex} (c : Ctx T cl X M EX W) (h : swB M a x px v = true) : lclB M.sc x = true ∧ isLcI a = true ∧ swapsWith v (some (.Name x px)) l X.env = pure true := by
  obtain ⟨k1, k5⟩ := b2 h
  obtain ⟨k2, k4⟩ := b2 k1
  obtain ⟨k3, k6⟩ := b2 k2
  obtain ⟨k7, k8⟩ := b2 k3
  refine ⟨k6, k7, ?_⟩
  have hk : X.env.scope.kind = .function := by
    rw [c.sc]
    split at k8
    · assumption
    · cases k8
  have hy : X.env.scope.names.lookup x = some .local := by rw [c.sc]; exact lcl_ok k6
  have ky : X.env.kindOf x = some .local := hy
  have hb : X.env.blockKind = .function := by unfold Env.blockKind; rw [hk]; rfl
  cases e : scopeOf v with
  | none => rw [e] at k5; exact ff k5
  | some sc =>
    rw [e] at k5
    have k9 : (sc.names.any fun y => y.1 == x && (y.2 == .local || y.2 == .cell)) = false := by simpa using k5
    cases v <;> first | (cases e; done) | skip
    · cases e
      exact sw_true hk hy k4 k9
    · cases e
      rename_i kx vx gs ps
      have k4' : (px.line == ps.line) = true := k4
      unfold swapsWith
      simp only [hb, ky, k9, Expr.pos, k4']
      rfl
theorem nsw_cell {v : Expr} {x : Str} {px : Pos} {l : Nat} (c : Ctx T cl X M EX W) (h : celT M x = true) : swapsWith v (some (.Name x px)) l X.env = pure false := by
  have ky : X.env.kindOf x = some .cell := by
    show X.env.scope.names.lookup x = _
    rw [c.sc]
    unfold celT at h
    split at h
    · assumption
    · cases h
  have e : (some NameKind.cell == some NameKind.local) = false := rfl
  cases v <;> first | rfl | (unfold swapsWith; simp only [ky, e, Bool.and_false, Bool.false_and])
theorem fm_lt {α β : Type} {f : α → Option β} : ∀ {l : List α}, (∃ x ∈ l, f x = none) → (l.filterMap f).length < l.length
  | [], h => by obtain ⟨x, h, _⟩ := h; cases h
  | x :: l, h => by
    rw [List.filterMap_cons]
    cases e : f x with
    | none => exact Nat.lt_succ_of_le (List.length_filterMap_le f l)
    | some y =>
      obtain ⟨z, hz, h2⟩ := h
      rcases List.mem_cons.mp hz with rfl | hz
      · rw [e] at h2; cases h2
      · exact Nat.succ_lt_succ (fm_lt ⟨z, hz, h2⟩)
theorem nsw_tup {es vs : List Expr} {k k2 : Nat} {q q2 : Pos} (c : Ctx T cl X M EX W) (h : nswT M (.Tuple es k q) = true) : swappedStores [.Tuple es k q] (.Tuple vs k2 q2) X.env = pure none := by
  unfold swappedStores
  dsimp only
  by_cases c1 : (!(es.length == 2 || es.length == 3) || vs.length != es.length || X.env.blockKind != .function) = true
  · rw [if_pos c1]
  · rw [if_neg c1]
    split
    · rfl
    · rw [if_pos]
      rw [Bool.or_eq_true_iff]
      left
      rw [bne_iff_ne]
      refine Nat.ne_of_lt (fm_lt ?_)
      obtain ⟨x, hx, h2⟩ := List.any_eq_true.mp (show (es.any fun e => match e with
        | .Name x _ => !lclB M.sc x
        | _ => true) = true from h)
      refine ⟨x, hx, ?_⟩
      cases x <;> first | rfl | skip
      rename_i y py
      dsimp only at h2 ⊢
      rw [if_neg]
      intro h3
      have h4 := (b2 h3).1
      have h5 : X.env.kindOf y = some .local := by simpa using h4
      have h6 : M.sc.names.lookup y = some .local := by rw [← c.sc]; exact h5
      unfold lclB at h2
      rw [h6] at h2
      cases h2
/-- name = value, in mode m -/
theorem ps_nm {a : Ex} {m : Md} {v : Expr} {i : Nat} {x : Str} {px p : Pos} (c : Ctx T cl X M EX W) (ha : Snd T cl a) (hl : isLcI a = true → SndL T cl a) (h1 : slotB M.N i x = true) (h2 : tgB M x = true) (hg : gd m a = true) (h3 : mat M a v = true) (h4 : (notComp v || swB M a x px v || celT M x) = true) :
    PS X (.Assign [.Name x px] v p) (tAsg (tE m X.K EX W (sem T cl a).v) (gName i)) := by
  by_cases hn : notComp v = true
  · exact tAsg_pe c h1 h2 (ha.v c h3 m hg) hn
  by_cases hc : celT M x = true
  · exact ps_set c.nd (c.slot h1) (tg_loc c h2).1 (ha.v c h3 m hg) (nsw_cell c hc) (tg_loc c h2).2
  · have h5 : swB M a x px v = true := by
      have e1 : notComp v = false := by simpa using hn
      have e2 : celT M x = false := by simpa using hc
      rw [e1, e2, Bool.false_or, Bool.or_false] at h4
      exact h4
    obtain ⟨k1, k2, k3⟩ := sw_is (l := p.line) c h5
    exact (hl k2).l c h3 m hg h1 k1 k3
theorem tS_e {α : Type} {K : PySem.W.Frag} {B : Bs} {env : Enw} {st : Sto} {F : Hp} {R : List Addr} {H : Hp} {σ : L2.St} : True := trivial
theorem snS_asg {i : Nat} {a : Ex} (ha : Snd T cl a) (hl : isLcI a = true → SndL T cl a) : SndS T cl (.asg (.nm i) a) where
  s := fun {X M EX W} c st h => by
    cases st <;> first | exact ff h | skip
    rename_i ts v p
    rcases ts with _ | ⟨t, _ | ⟨_, _⟩⟩
    · exact ff h
    · cases t <;> first | exact ff h | skip
      obtain ⟨k1, h5⟩ := b2 h
      obtain ⟨k2, h4⟩ := b2 k1
      obtain ⟨k3, h3⟩ := b2 k2
      obtain ⟨h1, h2⟩ := b2 k3
      refine ps_imp (ps_nm (m := .s) c.toCtx ha hl h1 h2 h3 h4 h5) fun D0 σ H ⟨B, F, R, env, st, sm, q⟩ => ?_
      refine ⟨F, R, env, st, sm.so, sm.eo, (q.so sm).imp fun d st1 F1 R1 H1 g1 so1 q1 => ⟨trivial, fun v hv => ?_⟩⟩
      obtain ⟨sm1, q2⟩ := q1
      exact q2 F1 R1 H1 _ (sm1.va hv)
    · cases t <;> exact ff h
theorem snS_asgT {is : List Nat} {a : Ex} (ha : Snd T cl a) : SndS T cl (.asg (.tp is) a) where
  s := fun {X M EX W} c st h => by
    cases st <;> first | exact ff h | skip
    rename_i ts v p
    rcases ts with _ | ⟨t, _ | ⟨_, _⟩⟩
    · exact ff h
    · obtain ⟨k1, h5⟩ := b2 h
      obtain ⟨k2, h4⟩ := b2 k1
      obtain ⟨k3, h3⟩ := b2 k2
      obtain ⟨h1, h2⟩ := b2 k3
      have ht : ∃ es k q, t = .Tuple es k q := by
        cases t <;> first | exact ff h1 | exact ⟨_, _, _, rfl⟩
      obtain ⟨es, k, q, rfl⟩ := ht
      refine ps_imp (ps_asg (ha.v c.toCtx h3 .s h2) (pg_D c.toCtx h1) (by cases v <;> first | rfl | exact ff h4) (by cases v <;> first | rfl | (refine nsw_tup c.toCtx ?_; rcases Bool.or_eq_true_iff.mp h5 with h5 | h5 <;> first | exact ff h5 | exact h5))) fun D0 σ H ⟨B, F, R, env, st, sm, q⟩ => ?_
      refine ⟨F, R, env, st, sm.so, sm.eo, (q.so sm).imp fun d st1 F1 R1 H1 g1 so1 q1 => ⟨trivial, fun v hv => ?_⟩⟩
      obtain ⟨sm1, q2⟩ := q1
      cases e1 : bindT (.tp is) d env with
      | none => rw [e1] at q2; exact q2.elim
      | some env' =>
        rw [e1] at q2
        exact ⟨F1, R1, st1, env, d, env', so1, sm1.eo, hv, e1, fun σ' eo' _ hk => q2 F1 R1 H1 σ' ⟨so1, eo', sm1.g, sm1.lf, fun j d a h1 h2 => by
          obtain ⟨h3, h4⟩ := hk j d h1
          exact sm1.nw j d a h4 (by rw [← h3]; exact h2)⟩⟩
    · cases t <;> exact ff h
theorem snS_asgO {i : Nat} {a : Ex} (ha : Snd T cl a) (hl : isLcI a = true → SndL T cl a) : SndS T cl (.asgO i a) where
  s := fun {X M EX W} c st h => by
    cases st <;> first | exact ff h | skip
    rename_i ts v p
    rcases ts with _ | ⟨t, _ | ⟨_, _⟩⟩
    · exact ff h
    · cases t <;> first | exact ff h | skip
      obtain ⟨k1, h5⟩ := b2 h
      obtain ⟨k2, h4⟩ := b2 k1
      obtain ⟨k3, h3⟩ := b2 k2
      obtain ⟨h1, h2⟩ := b2 k3
      refine ps_imp (ps_nm (m := .f) c.toCtx ha hl h1 h2 h3 h4 h5) fun D0 σ H ⟨B, F, R, env, st, sm, q⟩ => ?_
      refine ⟨F, R, env, st, sm.so, sm.eo, (q.so sm).imp fun d st1 F1 R1 H1 g1 so1 q1 => ?_⟩
      obtain ⟨sm1, q2⟩ := q1
      split at q2
      · rename_i ho
        exact ⟨ho, fun v hv => q2 F1 R1 H1 _ (sm.new sm1 hv)⟩
      · exact q2.elim
    · cases t <;> exact ff h
theorem snS_drop {a : Ex} (ha : Snd T cl a) : SndS T cl (.drop a) where
  s := fun {X M EX W} c st h => by
    cases st <;> first | exact ff h | skip
    obtain ⟨h1, h2⟩ := b2 h
    refine ps_imp (ps_expr (ha.v c.toCtx h1 .t rfl) (by
      rename_i v p
      cases v <;> first | rfl | exact ff h2)) fun D0 σ H ⟨B, F, R, env, st, sm, q⟩ => ?_
    exact ⟨F, R, env, st, sm.so, sm.eo, (q.so sm).imp fun d st1 F1 R1 H1 g1 so1 q1 => ⟨trivial, fun v hv => q1.2 F1 R1 H1 σ q1.1⟩⟩
theorem snS_ret {a : Ex} (ha : Snd T cl a) : SndS T cl (.ret a) where
  s := fun {X M EX W} c st h => by
    cases st <;> first | exact ff h | skip
    rename_i v p
    cases v with
    | none => exact ff h
    | some v =>
      obtain ⟨h1, h2⟩ := b2 h
      refine ps_imp (ps_ret (ha.v c.toCtx h2 .s h1)) fun D0 σ H ⟨B, F, R, env, st, sm, q⟩ => ?_
      exact ⟨F, R, env, st, sm.so, sm.eo, (q.so sm).imp fun d st1 F1 R1 H1 g1 so1 q1 => ⟨trivial, fun v hv => q1.2 F1 R1 H1 v q1.1.g so1 hv⟩⟩
theorem snS_retN : SndS T cl .retN where
  s := fun {X M EX W} c st h => by
    cases st <;> first | exact ff h | skip
    rename_i v p
    cases v with
    | some v => exact ff h
    | none => exact ps_imp ps_retN fun D0 σ H ⟨B, F, R, env, st, sm, q⟩ => q F R H .non sm.g sm.so (by unfold Rel; rfl)
theorem snS_pas : SndS T cl .pas where
  s := fun {X M EX W} c st h => by
    cases st <;> first | exact ff h | skip
    exact ps_imp ps_pass fun D0 σ H ⟨B, F, R, env, st, sm, q⟩ => q F R H σ sm
theorem snS_brk : SndS T cl .brk where
  s := fun {X M EX W} c st h => by
    cases st <;> first | exact ff h | skip
    exact ps_imp ps_break fun D0 σ H ⟨B, F, R, env, st, sm, q⟩ => q F R H σ sm
theorem snS_cnt : SndS T cl .cnt where
  s := fun {X M EX W} c st h => by
    cases st <;> first | exact ff h | skip
    exact ps_imp ps_continue fun D0 σ H ⟨B, F, R, env, st, sm, q⟩ => q F R H σ sm
/-! blocks -/
theorem snSs_nil : SndSs T cl .nil where
  s := fun {X M EX W} c st h => by
    cases st with
    | cons _ _ => exact ff h
    | nil => exact pss_imp pss_nil fun D0 σ H ⟨B, F, R, env, st, sm, q⟩ => q F R H σ sm
theorem snSs_frz {i : Nat} {ss : Ss} (hs : SndSs T cl ss) : SndSs T cl (.cons (.frz i) ss) where
  s := fun {X M EX W} c st h => by
    refine pss_imp (hs.s c (st := st) (by cases st <;> exact h)) fun D0 σ H ⟨B, F, R, env, st, sm, q⟩ => ?_
    unfold exss exs at q
    cases e1 : env[i]? with
    | none => simp only [e1] at q; exact q.elim
    | some s =>
      cases s <;> simp only [e1] at q <;> first | exact q.elim | skip
      · exact ⟨B, F, R, env, st, sm, q⟩
      · obtain ⟨F', sm'⟩ := sm.frz e1
        exact ⟨B, F', R, _, st, sm', q⟩
theorem snSs_cons {s : Sm} {ss : Ss} (hf : ∀ i, s ≠ .frz i) (h1 : SndS T cl s) (h2 : SndSs T cl ss) : SndSs T cl (.cons s ss) where
  s := fun {X M EX W} c st h => by
    have hm : ∃ x xs, st = x :: xs ∧ matS M s x = true ∧ matSs M ss xs = true := by
      cases st with
      | nil => cases s <;> first | exact absurd rfl (hf _) | exact ff h
      | cons x xs => cases s <;> first | exact absurd rfl (hf _) | exact ⟨x, xs, rfl, b2 h⟩
    obtain ⟨x, xs, rfl, k1, k2⟩ := hm
    refine pss_imp (pss_cons (h1.s c k1) (h2.s c k2)) fun D0 σ H ⟨B, F, R, env, st, sm, q⟩ => ?_
    refine ⟨B, F, R, env, st, sm, ?_⟩
    unfold exss at q
    cases e1 : exs T cl s env st with
    | bad => simp only [e1] at q; exact q.elim
    | nx e s1 => simp only [e1] at q; exact fun F' R' H' σ' sm' => ⟨B, F', R', e, s1, sm', q⟩
    | bk e s1 => simp only [e1] at q; exact q
    | ct e s1 => simp only [e1] at q; exact q
    | rt d s1 => simp only [e1] at q; exact q
    | ex cc fs e s1 => simp only [e1] at q; exact q
theorem snS_iff {cx : Ex} {a b : Ss} (hc : Snd T cl cx) (ha : SndSs T cl a) (hb : SndSs T cl b) : SndS T cl (.iff cx a b) where
  s := fun {X M EX W} c st h => by
    cases st <;> first | exact ff h | skip
    obtain ⟨k1, h3⟩ := b2 h
    obtain ⟨h1, h2⟩ := b2 k1
    refine ps_imp (ps_if (hc.b c.toCtx h1) (ha.s c h2) (hb.s c h3)) fun D0 σ H ⟨B, F, R, env, st, sm, q⟩ => ?_
    refine ⟨F, R, env, st, sm.so, sm.eo, (q.so sm).imp fun k st1 F1 R1 H1 g1 so1 q1 => ?_⟩
    obtain ⟨sm1, q2⟩ := q1
    cases k with
    | true => exact ⟨B, F1, R1, env, st1, sm1, q2⟩
    | false => exact ⟨B, F1, R1, env, st1, sm1, q2⟩
end
end Nb
end
section
set_option Elab.async false
set_option linter.all false
set_option maxRecDepth 100000
set_option maxHeartbeats 4000000
/-! NbS: a, b = x, y; name op= e; what is written in place -/
namespace Nb
open PySem PySem.Spec PyProof.Rows L2
section
variable {T : Tb} {cl : Cl} {X : Cx} {M : Mc} {EX : EXT} {W : WX}
def setAll : L2.St → List (Nat × Bool) → List V → L2.St
  | σ, (i, _) :: ts, v :: vs => setAll (σ.set i (some v)) ts vs
  | σ, _, _ => σ
/-- several values for several slots -/
def tP (K : PySem.W.Frag) (EX : EXT) (W : WX) (ts : List (Nat × Bool)) (f : Enw → Sto → Res (List D)) : TA := fun σ H Q => ∃ B F R env st env1 σ1, Sim K EX B env st F R H σ ∧ Sim K EX B env1 st F R H σ1 ∧
  After K W σ F R H (f env st) fun ds st' F' R' H' => ∀ vs env2, vs.length = ts.length → parS ts ds env1 = some env2 → Sim K EX B env2 st' F' R' H' (setAll σ1 ts vs) → Q vs H'
theorem pa_P (c : Ctx T cl X M EX W) : ∀ {ts : List (Nat × Bool)} {es : Es} {xs : List Expr}, AllS T cl es → parEs ts es = true → mats M es xs = true → PA X xs (tP X.K EX W ts (semsP T cl ts es))
  | [], .nil, xs, _, _, h => by
    cases mats_nil h
    exact pa_imp pa_nil fun σ H Q ⟨B, F, R, env, st, env1, σ1, s, s1, q⟩ => After.here q s.so [] env1 rfl rfl s1
  | [], .cons _ _, _, _, h, _ => by unfold parEs at h; exact ff h
  | _ :: _, .nil, _, _, h, _ => by unfold parEs at h; exact ff h
  | (i, o) :: ts, .cons a es, xs, ha, hp, h => by
    obtain ⟨x, r, rfl, h1, h2⟩ := mats_cons h
    unfold parEs at hp
    obtain ⟨p1, p2⟩ := b2 hp
    have ih := pa_P c ha.2 p2 h2
    have st1 := star_each (es := r) (env := X.env) (mat_ns h1)
    cases o with
    | false =>
      refine pa_imp (pa_cons (ha.1.v c h1 .s p1) ih st1) fun σ H Q ⟨B, F, R, env, st, env1, σ1, s, s1, q⟩ => ?_
      unfold semsP at q
      refine ⟨F, R, env, st, s.so, s.eo, q.bind.imp fun d st1 F1 R1 H1 g1 so1 q1 => ⟨trivial, fun v hv => ?_⟩⟩
      refine ⟨B, F1, R1, env, st1, env1.set i (.va d), σ1.set i (some v), s.grow g1 so1, (s1.grow g1 so1).va hv, (After.bind q1).imp fun ds st2 F2 R2 H2 g2 so2 q2 vs env2 hl hp2 sm2 => ?_⟩
      exact After.here q2 so2 (v :: vs) env2 (by simp [hl]) hp2 sm2
    | true =>
      refine pa_imp (pa_cons (ha.1.v c h1 .f p1) ih st1) fun σ H Q ⟨B, F, R, env, st, env1, σ1, s, s1, q⟩ => ?_
      unfold semsP at q
      refine ⟨F, R, env, st, s.so, s.eo, q.bind.imp fun d st1 F1 R1 H1 g1 so1 q1 => ?_⟩
      by_cases ho : isOwn d = true
      · refine ⟨ho, fun v hv => ?_⟩
        rw [ho] at q1
        refine ⟨B, F1, R1, env, st1, env1.set i (.ow d), σ1.set i (some v), s.grow g1 so1, s1.new (s1.grow g1 so1) hv, (After.bind q1).imp fun ds st2 F2 R2 H2 g2 so2 q2 vs env2 hl hp2 sm2 => ?_⟩
        exact After.here q2 so2 (v :: vs) env2 (by simp [hl]) hp2 sm2
      · have : isOwn d = false := by cases e : isOwn d with
          | true => exact absurd e ho
          | false => rfl
        rw [this] at q1
        exact q1.elim
theorem parTs_len : ∀ {ts : List (Nat × Bool)} {es : List Expr}, parTs M ts es = true → es.length = ts.length
  | [], [], _ => rfl
  | [], _ :: _, h => by unfold parTs at h; exact ff h
  | _ :: _, [], h => by unfold parTs at h; exact ff h
  | (i, o) :: ts, e :: es, h => by
    cases e <;> first | (unfold parTs at h; exact ff h) | skip
    unfold parTs at h
    show es.length + 1 = ts.length + 1
    rw [parTs_len (b2 h).2]
theorem parEs_len : ∀ {ts : List (Nat × Bool)} {es : Es}, parEs ts es = true → es.len = ts.length
  | [], .nil, _ => rfl
  | [], .cons _ _, h => by unfold parEs at h; exact ff h
  | _ :: _, .nil, h => by unfold parEs at h; exact ff h
  | (i, o) :: ts, .cons a es, h => by
    unfold parEs at h
    show es.len + 1 = ts.length + 1
    rw [parEs_len (b2 h).2]
theorem ed2 {x y : Str} (h : x ≠ y) : [x, y].eraseDups = [x, y] := by
  have h1 : (y == x) = false := by simp [Ne.symm h]
  simp [List.eraseDups_cons, List.filter, h1]
theorem ed3 {x y z : Str} (h : x ≠ y) (h2 : x ≠ z) (h3 : y ≠ z) : [x, y, z].eraseDups = [x, y, z] := by
  have h1 : (y == x) = false := by simp [Ne.symm h]
  have h4 : (z == x) = false := by simp [Ne.symm h2]
  have h5 : (z == y) = false := by simp [Ne.symm h3]
  simp [List.eraseDups_cons, List.filter, h1, h4, h5]
theorem not_tf {b : Bool} (h : (!b) = true) : b = false := by cases b <;> first | rfl | cases h
theorem sw_par2 {x y : Str} {a b : Expr} {px py pt pt2 : Pos} {k k2 : Nat} {env : Env} (hk : env.scope.kind = .function) (hx : env.scope.names.lookup x = some .local) (hy : env.scope.names.lookup y = some .local) (hxy : x ≠ y) (hl : (py.line == px.line) = true) (hs : parSw [a, b] = true) :
    swappedStores [.Tuple [.Name x px, .Name y py] k pt] (.Tuple [a, b] k2 pt2) env = pure (some [x, y]) := by
  have hb : env.blockKind = .function := by unfold Env.blockKind; rw [hk]; rfl
  have kx : env.kindOf x = some .local := hx
  have ky : env.kindOf y = some .local := hy
  unfold parSw at hs
  obtain ⟨s1, s3⟩ := b2 hs
  obtain ⟨s1, s2⟩ := b2 s1
  have s1' := not_tf s1
  have s2' := not_tf s2
  have s3' := not_tf s3
  have hl' : py.line = px.line := by simpa using hl
  simp only [List.any_cons, List.any_nil, Bool.or_false, Bool.or_eq_false_iff] at s3'
  obtain ⟨sa, sb⟩ := s3'
  have lx : (px.line == px.line) = true := by simp
  have ly : (py.line == px.line) = true := hl
  unfold swappedStores
  dsimp only
  rw [hb, if_neg (by simp), if_neg (by
    intro h
    rw [List.any_cons, List.any_cons, List.any_nil, Bool.or_false, Bool.or_eq_true_iff] at h
    rcases h with h | h
    · split at h
      · exact ff (sa.symm.trans rfl)
      · cases h
    · split at h
      · exact ff (sb.symm.trans rfl)
      · cases h)]
  simp only [List.filterMap_cons, List.filterMap_nil, List.head?_cons, Option.map_some, Option.getD_some, Expr.pos, kx, ky, ly, lx, beq_self_eq_true, Bool.and_self, if_true, List.length_cons, List.length_nil, ed2 hxy, bne_self_eq_false, Bool.or_self, Bool.false_eq_true, if_false, s1', s2']
theorem sw_par3 {x y z : Str} {a b d : Expr} {px py pz pt pt2 : Pos} {k k2 : Nat} {env : Env} (hk : env.scope.kind = .function) (hx : env.scope.names.lookup x = some .local) (hy : env.scope.names.lookup y = some .local) (hz : env.scope.names.lookup z = some .local)
    (hxy : x ≠ y) (hxz : x ≠ z) (hyz : y ≠ z) (hl : (py.line == px.line) = true) (hl2 : (pz.line == px.line) = true) (hs : parSw [a, b, d] = true) :
    swappedStores [.Tuple [.Name x px, .Name y py, .Name z pz] k pt] (.Tuple [a, b, d] k2 pt2) env = pure (some [x, y, z]) := by
  have hb : env.blockKind = .function := by unfold Env.blockKind; rw [hk]; rfl
  have kx : env.kindOf x = some .local := hx
  have ky : env.kindOf y = some .local := hy
  have kz : env.kindOf z = some .local := hz
  unfold parSw at hs
  obtain ⟨s1, s3⟩ := b2 hs
  obtain ⟨s1, s2⟩ := b2 s1
  have s1' := not_tf s1
  have s2' := not_tf s2
  have s3' := not_tf s3
  simp only [List.any_cons, List.any_nil, Bool.or_false, Bool.or_eq_false_iff] at s3'
  obtain ⟨sa, sb, sd⟩ := s3'
  have lx : (px.line == px.line) = true := by simp
  unfold swappedStores
  dsimp only
  rw [hb, if_neg (by simp), if_neg (by
    intro h
    rw [List.any_cons, List.any_cons, List.any_cons, List.any_nil, Bool.or_false, Bool.or_eq_true_iff, Bool.or_eq_true_iff] at h
    rcases h with h | h | h
    · split at h
      · exact ff (sa.symm.trans rfl)
      · cases h
    · split at h
      · exact ff (sb.symm.trans rfl)
      · cases h
    · split at h
      · exact ff (sd.symm.trans rfl)
      · cases h)]
  simp only [List.filterMap_cons, List.filterMap_nil, List.head?_cons, Option.map_some, Option.getD_some, Expr.pos, kx, ky, kz, hl, hl2, lx, beq_self_eq_true, Bool.and_self, if_true, List.length_cons, List.length_nil, ed3 hxy hxz hyz, bne_self_eq_false, Bool.or_self, Bool.false_eq_true, if_false, s1', s2']
theorem nm_ne (c : Ctx T cl X M EX W) {i j : Nat} {x y : Str} (h : i ≠ j) (hx : slotB M.N i x = true) (hy : slotB M.N j y = true) : x ≠ y := fun e => by
  subst e
  have h1 := c.slot hx
  have h2 := c.slot hy
  exact h ((List.getElem?_inj (List.getElem?_eq_some_iff.mp h1).1 c.nd).mp (by rw [h1, h2]))
theorem parTs_cons {i : Nat} {o : Bool} {ts : List (Nat × Bool)} {e : Expr} {es : List Expr} (h : parTs M ((i, o) :: ts) (e :: es) = true) : ∃ x p, e = .Name x p ∧ slotB M.N i x = true ∧ lclB M.sc x = true ∧ parTs M ts es = true := by
  cases e <;> first | (unfold parTs at h; exact ff h) | skip
  unfold parTs at h
  obtain ⟨h1, h3⟩ := b2 h
  obtain ⟨h1, h2⟩ := b2 h1
  exact ⟨_, _, rfl, h1, h2, h3⟩
theorem snS_par {ts : List (Nat × Bool)} {es : Es} (ha : AllS T cl es) : SndS T cl (.par ts es) where
  s := fun {X M EX W} c st h => by
    cases st <;> first | exact ff h | skip
    rename_i tg v p
    rcases tg with _ | ⟨t, _ | ⟨_, _⟩⟩
    · cases v <;> exact ff h
    · cases t <;> cases v <;> first | exact ff h | skip
      rename_i tgs kt pt vs k2 pt2
      obtain ⟨q1, h9⟩ := b2 h
      obtain ⟨q2, h8⟩ := b2 q1
      obtain ⟨q3, h7⟩ := b2 q2
      obtain ⟨q4, h6⟩ := b2 q3
      obtain ⟨q5, h5⟩ := b2 q4
      obtain ⟨q6, h4⟩ := b2 q5
      obtain ⟨q7, h3⟩ := b2 q6
      obtain ⟨h1, h2⟩ := b2 q7
      have hk : X.env.scope.kind = .function := by
        rw [c.sc]
        split at h9
        · assumption
        · cases h9
      have hnd : (ts.map (·.1)).Nodup := of_decide_eq_true h2
      have hpa := pa_P c.toCtx ha h4 h5
      have hcalm := c.calm h8
      have l1 := parTs_len h3
      have l2 := parEs_len h4
      have l3 := mats_len h5
      have lc : ∀ {x}, lclB M.sc x = true → X.env.scope.names.lookup x = some .local := fun h => by rw [c.sc]; exact lcl_ok h
      rcases ts with _ | ⟨⟨i, o⟩, _ | ⟨⟨j, o2⟩, _ | ⟨⟨l, o3⟩, _ | ⟨_, _⟩⟩⟩⟩
      · exact ff h1
      · exact ff h1
      · rcases tgs with _ | ⟨e1, _ | ⟨e2, _ | ⟨_, _⟩⟩⟩ <;> first | (cases l1; done) | skip
        rcases vs with _ | ⟨a, _ | ⟨b, _ | ⟨_, _⟩⟩⟩ <;> first | (rw [l2] at l3; cases l3; done) | skip
        obtain ⟨x, px, rfl, f1, f2, f3⟩ := parTs_cons h3
        obtain ⟨y, py, rfl, f4, f5, _⟩ := parTs_cons f3
        have hij : i ≠ j := by simp at hnd; exact hnd
        have hl : (py.line == px.line) = true := by
          unfold sameLine at h7
          simpa [Expr.pos] using h7
        refine ps_imp (ps_par hcalm c.nd (c.slot f1) (c.slot f4) hij (lc f2) (lc f5) hpa (sw_par2 hk (lc f2) (lc f5) (nm_ne c.toCtx hij f1 f4) hl h6)) fun D0 σ H ⟨B, F, R, env, st, sm, q⟩ => ?_
        refine ⟨B, F, R, env, st, env, σ, sm, sm, (q.so sm).imp fun ds st1 F1 R1 H1 g1 so1 q1 vs env2 hl2 hp sm2 => ?_⟩
        rw [hp] at q1
        rcases vs with _ | ⟨v, _ | ⟨w, _ | ⟨_, _⟩⟩⟩ <;> first | (cases hl2; done) | skip
        exact ⟨v, w, rfl, q1.2 F1 R1 H1 _ sm2⟩
      · rcases tgs with _ | ⟨e1, _ | ⟨e2, _ | ⟨e3, _ | ⟨_, _⟩⟩⟩⟩ <;> first | (cases l1; done) | skip
        rcases vs with _ | ⟨a, _ | ⟨b, _ | ⟨d, _ | ⟨_, _⟩⟩⟩⟩ <;> first | (rw [l2] at l3; cases l3; done) | skip
        obtain ⟨x, px, rfl, f1, f2, f3⟩ := parTs_cons h3
        obtain ⟨y, py, rfl, f4, f5, f6⟩ := parTs_cons f3
        obtain ⟨z, pz, rfl, f7, f8, _⟩ := parTs_cons f6
        have hn : (i ≠ j ∧ i ≠ l) ∧ j ≠ l := by simp at hnd; exact hnd
        have hl : (py.line == px.line) = true ∧ (pz.line == px.line) = true := by
          unfold sameLine at h7
          simpa [Expr.pos] using h7
        refine ps_imp (ps_par3 hcalm c.nd (c.slot f1) (c.slot f4) (c.slot f7) hn.1.1 hn.1.2 hn.2 (lc f2) (lc f5) (lc f8) hpa
          (sw_par3 hk (lc f2) (lc f5) (lc f8) (nm_ne c.toCtx hn.1.1 f1 f4) (nm_ne c.toCtx hn.1.2 f1 f7) (nm_ne c.toCtx hn.2 f4 f7) hl.1 hl.2 h6)) fun D0 σ H ⟨B, F, R, env, st, sm, q⟩ => ?_
        refine ⟨B, F, R, env, st, env, σ, sm, sm, (q.so sm).imp fun ds st1 F1 R1 H1 g1 so1 q1 vs env2 hl2 hp sm2 => ?_⟩
        rw [hp] at q1
        rcases vs with _ | ⟨u, _ | ⟨v, _ | ⟨w, _ | ⟨_, _⟩⟩⟩⟩ <;> first | (cases hl2; done) | skip
        exact ⟨u, v, w, rfl, q1.2 F1 R1 H1 _ sm2⟩
      · exact ff h1
    · cases t <;> cases v <;> exact ff h
end
end Nb
end
section
set_option Elab.async false
set_option linter.all false
set_option maxRecDepth 100000
set_option maxHeartbeats 4000000
/-! NbU: name op= e, loops -/
namespace Nb
open PySem PySem.Spec PyProof.Rows L2
section
variable {T : Tb} {cl : Cl} {X : Cx} {M : Mc} {EX : EXT} {W : WX}
theorem aug_rule {o : Bo} {op : Operator} (h : boB o op = true) (h2 : augB o = true) : ∃ C : Int → Int → Prop, ∃ g : Int → Int → Int, OpR X (inplaceOp op) (rI C fun i j => .int (g i j)) ∧ ∀ i j k, binI o i j = some k → C i j ∧ k = g i j := by
  have i0 : ∀ {f : Value → Value → Sem Value} {g : Int → Int → Int}, OpR X f (rI0 fun i j => .int (g i j)) → OpR X f (rI (fun _ _ => True) fun i j => .int (g i j)) := fun {f g} h pins s σ H x y v u Q I rx ry ⟨i, j, e1, e2, _, q⟩ => h pins s σ H x y v u Q I rx ry ⟨i, j, e1, e2, q⟩
  cases o <;> cases op <;> first | exact ff h | exact ff h2 | skip
  · exact ⟨_, _, i0 iop_add, fun i j k e => by cases e; exact ⟨trivial, rfl⟩⟩
  · exact ⟨_, _, i0 iop_sub, fun i j k e => by cases e; exact ⟨trivial, rfl⟩⟩
  · refine ⟨_, _, iop_mul, fun i j k e => ?_⟩
    obtain ⟨hc, rfl⟩ := ite_some e
    refine ⟨?_, rfl⟩
    unfold Nb.cMul at hc
    simpa [L2.CMul] using hc
  · exact ⟨_, _, i0 iop_and, fun i j k e => by cases e; exact ⟨trivial, rfl⟩⟩
  · exact ⟨_, _, i0 iop_or, fun i j k e => by cases e; exact ⟨trivial, rfl⟩⟩
  · exact ⟨_, _, i0 iop_xor, fun i j k e => by cases e; exact ⟨trivial, rfl⟩⟩
theorem snS_aug {i : Nat} {o : Bo} {a : Ex} (ha : Snd T cl a) : SndS T cl (.aug i o a) where
  s := fun {X M EX W} c st h => by
    cases st <;> first | exact ff h | skip
    rename_i t op v p
    cases t <;> first | exact ff h | skip
    obtain ⟨k1, h5⟩ := b2 h
    obtain ⟨k2, h4⟩ := b2 k1
    obtain ⟨k3, h3⟩ := b2 k2
    obtain ⟨h1, h2⟩ := b2 k3
    obtain ⟨C, g, hop, hb⟩ := aug_rule (X := X) h3 h4
    refine ps_imp (ps_aug c.nd (c.slot h1) (tg_loc c.toCtx h2).1 (ha.v c.toCtx h5 .t rfl) hop (tg_loc c.toCtx h2).2) fun D0 σ H ⟨B, F, R, env, st, sm, q⟩ => ?_
    unfold exs at q
    cases e1 : env[i]? with
    | none => simp only [e1] at q; exact q.elim
    | some s =>
      cases s <;> simp only [e1] at q <;> first | exact q.elim | skip
      rename_i d
      cases d <;> simp only [e1] at q <;> first | exact q.elim | skip
      rename_i x
      have hi := (List.getElem?_eq_some_iff.mp e1).1
      have hs : i < σ.length := by rw [← sm.eo.len]; exact hi
      obtain ⟨v', ev', r⟩ := sm.eo.sl i _ σ[i] e1 (by simp [hs])
      unfold Rel at r
      subst r
      refine ⟨.int x, by rw [List.getElem?_eq_getElem hs, ev'], F, R, env, st, sm.so, sm.eo, (q.so sm).imp fun d st1 F1 R1 H1 g1 so1 q1 => ⟨trivial, fun y hy => ?_⟩⟩
      obtain ⟨sm1, q2⟩ := q1
      cases d <;> first | exact q2.elim | skip
      rename_i j
      simp only at q2
      cases e2 : binI o x j with
      | none => rw [e2] at q2; exact q2.elim
      | some z =>
        rw [e2] at q2
        obtain ⟨hc, rfl⟩ := hb x j z e2
        exact ⟨x, j, rfl, RelT.int hy, hc, q2 F1 R1 H1 _ (sm1.va (by unfold Rel; rfl))⟩
theorem snS_whl {cx : Ex} {b : Ss} (hc : Snd T cl cx) (hb : SndSs T cl b) : SndS T cl (.whl cx b) where
  s := fun {X M EX W} c st h => by
    cases st <;> first | exact ff h | skip
    rename_i v xs oe p
    cases oe <;> first | exact ff h | skip
    obtain ⟨h1, h2⟩ := b2 h
    refine ps_imp (ps_while c.pas (hc.b c.toCtx h1) (hb.s c h2)) fun D0 σ H ⟨B, F, R, env, st, sm, q⟩ => ?_
    refine ⟨fun m σ H => ∃ F R env st, Sim X.K EX B env st F R H σ ∧ AO X.K EX W B D0 (whileN (fun e s => (sem T cl cx).b e s) (fun e s => exss T cl b e s) m env st), ⟨fuelW, F, R, env, st, sm, q⟩, ?_⟩
    rintro m σ H ⟨F, R, env, st, sm, q⟩
    cases m with
    | zero => exact q.elim
    | succ m =>
      unfold whileN at q
      refine ⟨F, R, env, st, sm.so, sm.eo, (q.so sm).imp fun k st1 F1 R1 H1 g1 so1 q1 => ?_⟩
      obtain ⟨sm1, q2⟩ := q1
      cases k with
      | false => exact q2 F1 R1 H1 σ sm1
      | true =>
        refine ⟨fun σ' H' => ∃ F R env st, Sim X.K EX B env st F R H' σ' ∧ AO X.K EX W B D0 (whileN (fun e s => (sem T cl cx).b e s) (fun e s => exss T cl b e s) m env st), fun σ' H' h => ⟨m, Nat.lt_succ_self m, h⟩, B, F1, R1, env, st1, sm1, ?_⟩
        simp only [if_true] at q2
        cases e1 : exss T cl b env st1 with
        | bad => simp only [e1] at q2; exact q2.elim
        | nx e s1 => simp only [e1] at q2; exact fun F' R' H' σ' sm' => ⟨F', R', e, s1, sm', q2⟩
        | ct e s1 => simp only [e1] at q2; exact fun F' R' H' σ' sm' => ⟨F', R', e, s1, sm', q2⟩
        | bk e s1 => simp only [e1] at q2; exact q2
        | rt d s1 => simp only [e1] at q2; exact q2
        | ex cc fs e s1 => simp only [e1] at q2; exact q2
theorem snS_forr {t : Tg} {it : It} {b : Ss} (hi : SndI T cl it) (hb : SndSs T cl b) : SndS T cl (.forr t it b) where
  s := fun {X M EX W} c st h => by
    cases st <;> first | exact ff h | skip
    rename_i tg iter xs oe p
    cases oe <;> first | exact ff h | skip
    obtain ⟨k1, h6⟩ := b2 h
    obtain ⟨k2, h5⟩ := b2 k1
    obtain ⟨k3, h4⟩ := b2 k2
    obtain ⟨k4, h3⟩ := b2 k3
    obtain ⟨h1, h2⟩ := b2 k4
    refine ps_imp (ps_for c.pas (c.calm h6) (hi.i c.toCtx h1 .s h2) (pg_D c.toCtx h3) (hb.s c h5) (folded_no h4)) fun D0 σ H ⟨B, F, R, env, st, sm, q⟩ => ?_
    refine ⟨F, R, env, st, sm.so, sm.eo, (q.so sm).imp fun ds st1 F1 R1 H1 g1 so1 q1 J wk => ?_⟩
    obtain ⟨sm1, q2⟩ := q1
    have q3 := q2.loop (F1 := F1) (R1 := R1) sm1.lf.1 sm1.lf.2
    refine ⟨fun i m σ H => m = ds.length - i ∧ i ≤ ds.length ∧ ∃ F R env st, Sim X.K EX (B.loop F1 R1) env st F R H σ ∧ AO X.K EX W (B.loop F1 R1) D0 (forN t (fun e s => exss T cl b e s) (ds.drop i) env st), ⟨ds.length, by simp, Nat.zero_le _, F1, R1, env, st1, sm1.loop, by simpa using q3⟩, ?_⟩
    rintro i m σ H ⟨rfl, hi, F, R, env, st, sm, q⟩
    have rch : reach .s F1 R1 H1 F R H := sm.lf
    by_cases hlt : i < ds.length
    · right
      rw [List.drop_eq_getElem_cons hlt] at q
      unfold forN at q
      obtain ⟨w1, w2⟩ := wk.go F R H st i _ rch sm.so (List.getElem?_eq_getElem hlt)
      refine ⟨w1, fun σ' H' => ∃ F R env st, Sim X.K EX (B.loop F1 R1) env st F R H' σ' ∧ AO X.K EX W (B.loop F1 R1) D0 (forN t (fun e s => exss T cl b e s) (ds.drop (i + 1)) env st), fun σ' H' h => ⟨ds.length - (i + 1), by omega, rfl, hlt, h⟩, fun x H' hy => ?_⟩
      obtain ⟨F', g', so', rx⟩ := w2 x H' hy
      have sm' := sm.grow g' so'
      cases e1 : bindT t ds[i] env with
      | none => simp only [e1] at q; exact q.elim
      | some env' =>
        simp only [e1] at q
        refine ⟨F', R, st, env, ds[i], env', so', sm'.eo, rx, e1, fun σ' eo' _ hk => ⟨B.loop F1 R1, F', R, env', st, ⟨so', eo', sm'.g, sm'.lf, fun j d a h1 h2 => ?_⟩, ?_⟩⟩
        · obtain ⟨h3, h4⟩ := hk j d h1
          exact sm'.nw j d a h4 (by rw [← h3]; exact h2)
        · cases e2 : exss T cl b env' st with
          | bad => simp only [e2] at q; exact q.elim
          | nx e s1 => simp only [e2] at q; exact fun F' R' H' σ' sm' => ⟨F', R', e, s1, sm', q⟩
          | ct e s1 => simp only [e2] at q; exact fun F' R' H' σ' sm' => ⟨F', R', e, s1, sm', q⟩
          | bk e s1 => simp only [e2] at q; exact q
          | rt d s1 => simp only [e2] at q; exact q
          | ex cc fs e s1 => simp only [e2] at q; exact q
    · left
      have e : i = ds.length := by omega
      subst e
      rw [List.drop_length] at q
      exact ⟨wk.stop F R H st rch sm.so, q F R H σ sm⟩
end
end Nb
end
section
set_option Elab.async false
set_option linter.all false
set_option maxRecDepth 100000
set_option maxHeartbeats 4000000
/-! NbV: lists and dicts written in place -/
namespace Nb
open PySem PySem.Spec PyProof.Rows L2
section
variable {T : Tb} {cl : Cl} {X : Cx} {M : Mc} {EX : EXT} {W : WX}
def rSetD : TSet := fun o i v H Q => ∃ a H4, o = .ref a ∧ DPut H a i v H4 ∧ Q H4
theorem set_dict (hu : X.A.units + 1 < cLine) : PSet X rSetD := by
  intro pins s σ H o i v ov iv u Q I ro ri rv ⟨a, H4, e, g, q⟩
  subst e
  cases ro
  exact d_setItem hu I g ri rv fun s4 I4 => ⟨H4, I4, q⟩
theorem PSet.or {t t' : TSet} (h : PSet X t) (h' : PSet X t') : PSet X fun o i v H Q => t o i v H Q ∨ t' o i v H Q := by
  intro pins s σ H o i v ov iv u Q I ro ri rv q
  rcases q with q | q
  · exact h pins s σ H o i v ov iv u Q I ro ri rv q
  · exact h' pins s σ H o i v ov iv u Q I ro ri rv q
theorem pg_subD (c : Ctx T cl X M EX W) {o i : Expr} {to ti : TE} {p : Pos} (ho : PE X o to) (hi : PE X i ti) (hn : notSl i = true) : PG X (.Subscript o i p) (gSub to ti fun o i v H Q => rSetL o i v H Q ∨ rSetD o i v H Q) := by
  have hu := c.units
  refine pg_sub ho hi (PSet.or set_list (set_dict (by omega))) fun v => ?_
  cases i <;> first | rfl | exact ff hn
section
variable {κ : Type} [DecidableEq κ] {K : PySem.W.Frag} {F : Hp} {R : List Addr}
theorem any_zip (q : κ) : ∀ {ks : List κ} {vs : List V}, ks.length = vs.length → ((ks.zip vs).any fun kv => decide (kv.1 = q)) = ks.any fun k => decide (k = q)
  | [], _, _ => by simp
  | k :: ks, [], h => by simp at h
  | k :: ks, v :: vs, h => by
    rw [List.zip_cons_cons, List.any_cons, List.any_cons, any_zip q (by simpa using h)]
/-- a dict with a new entry, by keys and values -/
theorem put_zip (q : κ) {d : D} {v : V} {ks : List κ} {ds : List D} {vs : List V} (hl : ks.length = ds.length) (r : Rels K F R ds vs) (rv : Rel K F R d v) :
    ∃ ws, putK (ks.zip vs) q v = (putKs ks q).zip ws ∧ (putKs ks q).length = (putVs ks ds q d).length ∧ Rels K F R (putVs ks ds q d) ws := by
  have hv : ks.length = vs.length := by rw [hl, r.len]
  unfold putK putKs putVs
  rw [any_zip q hv]
  by_cases h : (ks.any fun k => decide (k = q)) = true
  · rw [if_pos h, if_pos h, if_pos h]
    refine ⟨List.zipWith (fun k w => if k = q then v else w) ks vs, ?_, by simp [hl], ?_⟩
    · clear h r rv hl
      induction ks generalizing vs with
      | nil => simp
      | cons k ks ih => cases vs with
        | nil => simp at hv
        | cons w vs =>
          simp only [List.zip_cons_cons, List.map_cons, List.zipWith_cons_cons]
          rw [ih (by simpa using hv)]
          by_cases e : k = q <;> simp [e]
    · clear h hv
      induction ks generalizing ds vs with
      | nil => exact Rels.nil
      | cons k ks ih => cases ds with
        | nil => simp at hl
        | cons e ds =>
          unfold Rels at r
          obtain ⟨w, ws, rfl, r1, r2⟩ := r
          simp only [List.zipWith_cons_cons]
          refine Rels.cons ?_ (ih (by simpa using hl) r2)
          by_cases e : k = q
          · simp only [e, if_true]; exact rv
          · simp only [e, if_false]; exact r1
  · rw [if_neg h, if_neg h, if_neg h]
    refine ⟨vs ++ [v], ?_, by simp [hl], r.app (Rels.one rv)⟩
    rw [List.zip_append hv]
    rfl
theorem len_zip {ks : List κ} {ds : List D} {vs : List V} (hl : ks.length = ds.length) (r : Rels K F R ds vs) : (ks.zip vs).length = ks.length := by
  have := r.len
  simp [List.length_zip]
  omega
end
theorem rel_set {K : PySem.W.Frag} {F : Hp} {R : List Addr} {H : Hp} {a : Addr} {o : HO} {d : D} : True := trivial
theorem own_var {K : PySem.W.Frag} {B : Bs} {F : Hp} {R : List Addr} {H : Hp} {σ : L2.St} {env : Enw} {st : Sto} {i : Nat} {d : D} {Q : VK} (sm : Sim K EX B env st F R H σ) (h : env[i]? = some (.ow d))
    (q : ∀ a, σ[i]? = some (some (.ref a)) → OwnR K F R H a d → Q (.ref a) H) : tVar i σ H Q := by
  obtain ⟨a, h1, h2, h3, h4, h5⟩ := sm.own h
  exact ⟨.ref a, h1, q a h1 h4⟩
/-- c[q] = d, c a slot's own -/
theorem set_fin {K : PySem.W.Frag} {B : Bs} {F : Hp} {R : List Addr} {H : Hp} {σ : L2.St} {env : Enw} {st : Sto} {i : Nat} {x q d x' : D} {a : Addr} {vk vd : V} {Q : Hp → Prop} (sm : Sim K EX B env st F R H σ) (h : env[i]? = some (.ow x)) (hs : σ[i]? = some (some (.ref a)))
    (rk : RelT K F R H q vk) (rd : Rel K F R d vd) (e : setD x q d = some x') (k : ∀ H', Sim K EX B (env.set i (.ow x')) st F R H' σ → Q H') : rSetL (.ref a) vk vd H Q ∨ rSetD (.ref a) vk vd H Q := by
  obtain ⟨a', h1, h2, h3, h4, h5⟩ := sm.own h
  rw [hs] at h1
  cases h1
  cases x <;> first | (cases e; done) | skip
  · rename_i xs
    cases q <;> first | (cases e; done) | skip
    rename_i j
    obtain ⟨n, e1, rfl⟩ := Option.map_eq_some_iff.mp e
    obtain ⟨vs, g1, g2⟩ := h4
    exact .inl ⟨a, vs, j, n, rfl, rk.int, g1, by rw [← g2.len]; exact e1, k _ (sm.put h hs g1 (.inl ⟨_, rfl⟩) ⟨_, upd_same, g2.set n rd⟩)⟩
  · rename_i ks ds
    obtain ⟨y, e1, e2⟩ := Option.bind_eq_some_iff.mp e
    obtain ⟨e3, rfl⟩ := ite_some e2
    obtain ⟨vs, g1, g3, g2⟩ := h4
    obtain ⟨ws, p1, p2, p3⟩ := put_zip y g3 g2 rd
    refine .inr ⟨a, _, rfl, ?_, k _ (sm.put h hs g1 (.inr (.inl ⟨_, rfl⟩)) ⟨ws, upd_same, p2, p3⟩)⟩
    rw [keyD_r rk e1, ← p1]
    exact DPut.k g1 (by rw [len_zip g3 g2, ← big_line]; exact e3)
  · rename_i ks ds
    obtain ⟨y, e1, e2⟩ := Option.bind_eq_some_iff.mp e
    obtain ⟨e3, rfl⟩ := ite_some e2
    obtain ⟨vs, g1, g3, g2⟩ := h4
    obtain ⟨b, rfl, hb⟩ := keysD_r sm.so rk e1
    obtain ⟨ws, p1, p2, p3⟩ := put_zip y g3 g2 rd
    refine .inr ⟨a, _, rfl, ?_, k _ (sm.put h hs g1 (.inr (.inr ⟨_, rfl⟩)) ⟨ws, upd_same, p2, p3⟩)⟩
    rw [← p1]
    exact DPut.t g1 hb (by rw [len_zip g3 g2, ← big_line]; exact e3)
theorem snS_setO {i : Nat} {k a : Ex} (hk : Snd T cl k) (ha : Snd T cl a) : SndS T cl (.setO i k a) where
  s := fun {X M EX W} c st h => by
    cases st <;> first | exact ff h | skip
    rename_i ts v p
    rcases ts with _ | ⟨t, _ | ⟨_, _⟩⟩
    · exact ff h
    · cases t <;> first | exact ff h | skip
      rename_i o ix tp
      cases o <;> first | exact ff h | skip
      obtain ⟨k1, h7⟩ := b2 h
      obtain ⟨k2, h6⟩ := b2 k1
      obtain ⟨k3, h5⟩ := b2 k2
      obtain ⟨k4, h4⟩ := b2 k3
      obtain ⟨k5, h3⟩ := b2 k4
      obtain ⟨h1, h2⟩ := b2 k5
      obtain ⟨v1, v2, v3⟩ := c.vis h2
      refine ps_imp (ps_asg (ha.v c.toCtx h6 .s h5) (pg_subD c.toCtx (pe_var (c.slot h1) v1 v2 v3) (hk.v c.toCtx h4 .t rfl) h3) (by cases v <;> first | rfl | exact ff h7) (by cases v <;> rfl)) fun D0 σ H ⟨B, F, R, env, st, sm, q⟩ => ?_
      unfold exs at q
      cases e1 : env[i]? with
      | none => simp only [e1] at q; exact q.elim
      | some s =>
        cases s <;> simp only [e1] at q <;> first | exact q.elim | skip
        refine ⟨F, R, env, st, sm.so, sm.eo, (q.so sm).imp fun d st1 F1 R1 H1 g1 so1 q1 => ⟨trivial, fun w hw => ?_⟩⟩
        obtain ⟨sm1, q2⟩ := q1
        refine own_var sm1 e1 fun a ha hown => ⟨F1, R1, env, st1, sm1.so, sm1.eo, (q2.so sm1).imp fun y st2 F2 R2 H2 g2 so2 q3 => ⟨trivial, fun u hu => ?_⟩⟩
        obtain ⟨sm2, q4⟩ := q3
        cases e2 : setD _ y d with
        | none => rw [e2] at q4; exact q4.elim
        | some x' =>
          rw [e2] at q4
          exact set_fin sm2 e1 ha hu (Rel.mono g2.sameF g2.pre hw) e2 fun H' sm3 => q4 F2 R2 H' σ sm3
    · cases t <;> first | exact ff h | skip
      rename_i o _ _
      cases o <;> exact ff h
theorem snS_setR {o k a : Ex} (ho : Snd T cl o) (hk : Snd T cl k) (ha : Snd T cl a) : SndS T cl (.setR o k a) where
  s := fun {X M EX W} c st h => by
    cases st <;> first | exact ff h | skip
    rename_i ts v p
    rcases ts with _ | ⟨t, _ | ⟨_, _⟩⟩
    · exact ff h
    · cases t <;> first | exact ff h | skip
      obtain ⟨k1, h6⟩ := b2 h
      obtain ⟨k2, h5⟩ := b2 k1
      obtain ⟨k3, h4⟩ := b2 k2
      obtain ⟨k4, h3⟩ := b2 k3
      obtain ⟨h1, h2⟩ := b2 k4
      refine ps_imp (ps_asg (ha.v c.toCtx h5 .s h4) (pg_subD c.toCtx (ho.v c.toCtx h1 .t rfl) (hk.v c.toCtx h3 .t rfl) h2) (by cases v <;> first | rfl | exact ff h6) (by cases v <;> rfl)) fun D0 σ H ⟨B, F, R, env, st, sm, q⟩ => ?_
      unfold exs at q
      refine ⟨F, R, env, st, sm.so, sm.eo, (q.so sm).imp fun d st1 F1 R1 H1 g1 so1 q1 => ⟨trivial, fun w hw => ?_⟩⟩
      obtain ⟨sm1, q2⟩ := q1
      refine ⟨F1, R1, env, st1, sm1.so, sm1.eo, (q2.so sm1).imp fun x st2 F2 R2 H2 g2 so2 q3 => ⟨trivial, fun u hu => ?_⟩⟩
      obtain ⟨sm2, q4⟩ := q3
      refine ⟨F2, R2, env, st2, sm2.so, sm2.eo, (q4.so sm2).imp fun y st3 F3 R3 H3 g3 so3 q5 => ⟨trivial, fun vk hvk => ?_⟩⟩
      obtain ⟨sm3, q6⟩ := q5
      cases x <;> cases y <;> first | exact q6.elim | skip
      rename_i n j
      simp only at q6
      cases e1 : st3[n]? with
      | none => rw [e1] at q6; exact q6.elim
      | some ob =>
        cases ob with
        | lst xs =>
          rw [e1] at q6
          simp only at q6
          cases e2 : ixN xs.length j with
          | none => rw [e2] at q6; exact q6.elim
          | some m =>
            rw [e2] at q6
            obtain ⟨a, vs, rfl, f1, f2, f3⟩ := ref_obj sm3.so (RelT.grow hu g3) e1
            have rd : Rel X.K F3 R3 d w := Rel.mono (g2.trans g3).sameF (g2.trans g3).pre hw
            refine .inl ⟨a, vs, j, m, rfl, RelT.int hvk, f2, by rw [← f3.len]; exact e2, q6 F3 R3 _ σ ?_⟩
            exact sm3.grow (Grow.put ⟨_, f2⟩ (List.mem_of_getElem? f1)) (sm3.so.put f1 (f3.set m rd))
    · cases t <;> exact ff h
theorem apParts_eq {st : Stmt} {o : Expr} {n : Str} {xs : List Expr} (h : apParts st = some (o, n, xs)) : ∃ ap p q, st = .Expr (.Call (.Attribute o n ap) xs [] p) q ∧ (ap.endLine == p.line) = true := by
  unfold apParts at h
  split at h
  · split at h
    · cases h; exact ⟨_, _, _, rfl, by assumption⟩
    · cases h
  · cases h
theorem snS_appO {i : Nat} {a : Ex} (ha : Snd T cl a) : SndS T cl (.appO i a) where
  s := fun {X M EX W} c st h => by
    unfold matS at h
    cases e0 : apParts st with
    | none => rw [e0] at h; exact ff h
    | some t =>
      obtain ⟨o, n, xs⟩ := t
      rw [e0] at h
      obtain ⟨ap, p, pp, rfl, h0⟩ := apParts_eq e0
      rcases xs with _ | ⟨v, _ | ⟨_, _⟩⟩ <;> cases o <;> first | exact ff h | skip
      obtain ⟨k1, h6⟩ := b2 h
      obtain ⟨k2, h5⟩ := b2 k1
      obtain ⟨k3, h4⟩ := b2 k2
      obtain ⟨k4, h3⟩ := b2 k3
      obtain ⟨h1, h2⟩ := b2 k4
      have h3 := of_decide_eq_true h3
      subst h3
      obtain ⟨v1, v2, v3⟩ := c.vis h2
      have st5 := star_each (es := []) (env := X.env) (mat_ns h5)
      refine ps_imp (ps_expr (pe_bm PySem.F.plainAttrs_list PySem.F.slot_list_append PySem.F.type_list_append mt_append (pe_var (c.slot h1) v1 v2 v3) (pa_cons (ha.v c.toCtx h5 .s h4) pa_nil st5) rfl (by rw [st5]; rfl) h0 st5 rfl)) fun D0 σ H ⟨B, F, R, env, st, sm, q⟩ => ?_
      unfold exs at q
      cases e1 : env[i]? with
      | none => simp only [e1] at q; exact q.elim
      | some s =>
        cases s <;> simp only [e1] at q <;> first | exact q.elim | skip
        rename_i x
        cases x <;> simp only [e1] at q <;> first | exact q.elim | skip
        rename_i ds
        unfold tDrop tBM
        refine own_var sm e1 fun b hb how => ?_
        obtain ⟨vs0, hv0, _⟩ := how
        refine ⟨.inl ⟨rfl, vs0, SqL.of hv0⟩, F, R, env, st, sm.so, sm.eo, (q.so sm).imp fun d st1 F1 R1 H1 g1 so1 q1 => ⟨trivial, fun w hw => ?_⟩⟩
        obtain ⟨sm1, q2⟩ := q1
        split at q2
        · rename_i hz
          obtain ⟨a', f1, f2, f3, ⟨vs, f4, f5⟩, f6⟩ := sm1.own e1
          rw [hb] at f1
          cases f1
          exact ⟨b, vs, w, rfl, rfl, f4, by rw [← f5.len, ← big_line]; exact hz, q2 F1 R1 _ σ (sm1.put e1 hb f4 (.inl ⟨_, rfl⟩) ⟨_, upd_same, f5.app (Rels.one hw)⟩)⟩
        · exact q2.elim
theorem snS_insO {i : Nat} {k a : Ex} (hk : Snd T cl k) (ha : Snd T cl a) : SndS T cl (.insO i k a) where
  s := fun {X M EX W} c st h => by
    unfold matS at h
    cases e0 : apParts st with
    | none => rw [e0] at h; exact ff h
    | some t =>
      obtain ⟨o, n, xs⟩ := t
      rw [e0] at h
      obtain ⟨ap, p, pp, rfl, h0⟩ := apParts_eq e0
      rcases xs with _ | ⟨u, _ | ⟨v, _ | ⟨_, _⟩⟩⟩ <;> cases o <;> first | exact ff h | skip
      obtain ⟨k1, h8⟩ := b2 h
      obtain ⟨k2, h7⟩ := b2 k1
      obtain ⟨k3, h6⟩ := b2 k2
      obtain ⟨k4, h5⟩ := b2 k3
      obtain ⟨k5, h4⟩ := b2 k4
      obtain ⟨k6, h3⟩ := b2 k5
      obtain ⟨h1, h2⟩ := b2 k6
      have h3 := of_decide_eq_true h3
      subst h3
      obtain ⟨v1, v2, v3⟩ := c.vis h2
      have st5 := star_each (es := [v]) (env := X.env) (mat_ns h5)
      have st6 := star_each (es := []) (env := X.env) (mat_ns h7)
      refine ps_imp (ps_expr (pe_bm PySem.F.plainAttrs_list PySem.F.slot_list_insert PySem.F.type_list_insert mt_insert (pe_var (c.slot h1) v1 v2 v3) (pa_cons (hk.v c.toCtx h5 .s h4) (pa_cons (ha.v c.toCtx h7 .s h6) pa_nil st6) st5) rfl (by rw [st5, st6]; rfl) h0 st5 (by rw [st6]; rfl))) fun D0 σ H ⟨B, F, R, env, st, sm, q⟩ => ?_
      unfold exs at q
      cases e1 : env[i]? with
      | none => simp only [e1] at q; exact q.elim
      | some s =>
        cases s <;> simp only [e1] at q <;> first | exact q.elim | skip
        rename_i x
        cases x <;> simp only [e1] at q <;> first | exact q.elim | skip
        rename_i ds
        unfold tDrop tBM
        refine own_var sm e1 fun b hb how => ?_
        obtain ⟨vs0, hv0, _⟩ := how
        refine ⟨.inl ⟨rfl, vs0, SqL.of hv0⟩, F, R, env, st, sm.so, sm.eo, (q.so sm).imp fun kd st1 F1 R1 H1 g1 so1 q1 => ⟨trivial, fun vk hvk => ?_⟩⟩
        obtain ⟨sm1, q2⟩ := q1
        refine ⟨F1, R1, env, st1, sm1.so, sm1.eo, (q2.so sm1).imp fun d st2 F2 R2 H2 g2 so2 q3 => ⟨trivial, fun w hw => ?_⟩⟩
        obtain ⟨sm2, q4⟩ := q3
        cases kd <;> first | exact q4.elim | skip
        rename_i j
        simp only at q4
        split at q4
        · rename_i hz
          obtain ⟨a', f1, f2, f3, ⟨vs, f4, f5⟩, f6⟩ := sm2.own e1
          rw [hb] at f1
          cases f1
          have hvk' : vk = .int j := RelT.int (K := X.K) (F := F1) (R := R1) (H := H1) (.inl hvk)
          have hbg : (big : Nat) = 16777216 := rfl
          exact ⟨b, vs, j, w, rfl, by rw [hvk'], f4, by rw [← f5.len, ← big_line]; exact hz.1, hz.2.1, by omega, q4 F2 R2 _ σ (sm2.put e1 hb f4 (.inl ⟨_, rfl⟩) ⟨_, upd_same, ((f5.take _).app (Rels.one hw)).app (f5.drop _)⟩)⟩
        · exact q4.elim
theorem snS_appR {o a : Ex} (ho : Snd T cl o) (ha : Snd T cl a) : SndS T cl (.appR o a) where
  s := fun {X M EX W} c st h => by
    unfold matS at h
    cases e0 : apParts st with
    | none => rw [e0] at h; exact ff h
    | some t =>
      obtain ⟨oe, n, xs⟩ := t
      rw [e0] at h
      obtain ⟨ap, p, pp, rfl, h0⟩ := apParts_eq e0
      rcases xs with _ | ⟨v, _ | ⟨_, _⟩⟩ <;> first | exact ff h | skip
      obtain ⟨k1, h6⟩ := b2 h
      obtain ⟨k2, h5⟩ := b2 k1
      obtain ⟨k3, h4⟩ := b2 k2
      obtain ⟨k4, h3⟩ := b2 k3
      obtain ⟨h1, h2⟩ := b2 k4
      have h1 := of_decide_eq_true h1
      subst h1
      have st5 := star_each (es := []) (env := X.env) (mat_ns h5)
      refine ps_imp (ps_expr (pe_bm PySem.F.plainAttrs_list PySem.F.slot_list_append PySem.F.type_list_append mt_append (ho.v c.toCtx h3 .t rfl) (pa_cons (ha.v c.toCtx h5 .s h4) pa_nil st5) (plain_base h2) (by rw [st5]; rfl) h0 st5 rfl)) fun D0 σ H ⟨B, F, R, env, st, sm, q⟩ => ?_
      unfold exs at q
      refine ⟨F, R, env, st, sm.so, sm.eo, (q.so sm).imp fun x st1 F1 R1 H1 g1 so1 q1 => ⟨trivial, fun u hu => ?_⟩⟩
      obtain ⟨sm1, q2⟩ := q1
      split at q2
      · rename_i hr
        refine ⟨ref_list so1 hu hr, F1, R1, env, st1, sm1.so, sm1.eo, (q2.so sm1).imp fun d st2 F2 R2 H2 g2 so2 q3 => ⟨trivial, fun w hw => ?_⟩⟩
        obtain ⟨sm2, q4⟩ := q3
        cases x <;> first | exact q4.elim | skip
        rename_i n
        simp only at q4
        cases e1 : st2[n]? with
        | none => rw [e1] at q4; exact q4.elim
        | some ob =>
          cases ob with
          | lst xs =>
            rw [e1] at q4
            simp only at q4
            split at q4
            · rename_i hz
              obtain ⟨a, vs, rfl, f1, f2, f3⟩ := ref_obj sm2.so (RelT.grow hu g2) e1
              exact ⟨a, vs, w, rfl, rfl, f2, by rw [← f3.len, ← big_line]; exact hz, q4 F2 R2 _ σ (sm2.grow (Grow.put ⟨_, f2⟩ (List.mem_of_getElem? f1)) (sm2.so.put f1 (f3.app (Rels.one hw))))⟩
            · exact q4.elim
      · exact q2.elim
/-! raise -/
theorem rels_one {K : PySem.W.Frag} {F : Hp} {R : List Addr} {ds : List D} {v : V} (r : Rels K F R ds [v]) : ∃ d, ds = [d] ∧ Rel K F R d v := by
  cases ds with
  | nil => unfold Rels at r; cases r
  | cons d ds =>
    unfold Rels at r
    obtain ⟨w, ws, e, r1, r2⟩ := r
    cases e
    cases ds with
    | nil => exact ⟨d, rfl, r1⟩
    | cons d ds => unfold Rels at r2; obtain ⟨_, _, e, _⟩ := r2; cases e
theorem snS_rai {cn : Str} {es : Es} (ha : AllS T cl es) : SndS T cl (.rai cn es) where
  s := fun {X M EX W} c st h => by
    cases st <;> first | exact ff h | skip
    rename_i e ca p
    cases e with
    | none => exact ff h
    | some e =>
    cases e <;> first | exact ff h | (cases ca <;> exact ff h) | skip
    rename_i f xs ks q
    cases f <;> cases ks <;> cases ca <;> first | exact ff h | skip
    obtain ⟨k1, h6⟩ := b2 h
    obtain ⟨k2, h5⟩ := b2 k1
    obtain ⟨k3, h4⟩ := b2 k2
    obtain ⟨k4, h3⟩ := b2 k3
    obtain ⟨h1, h2⟩ := b2 k4
    have h1 := (of_decide_eq_true h1).symm
    subst h1
    have h3 : es.len = 1 := of_decide_eq_true h3
    have hl := mats_len h5
    rw [h3] at hl
    rcases xs with _ | ⟨x, _ | ⟨_, _⟩⟩ <;> first | (cases hl; done) | skip
    have hns : ∀ y q, x ≠ .Starred y q := by
      cases es with
      | nil => cases h3
      | cons a es =>
        obtain ⟨x', r, e, f1, f2⟩ := mats_cons h5
        cases e
        exact mat_ns f1
    refine ⟨fun pins s σ H D0 I ⟨B, F, R, env, st, sm, q⟩ => ?_⟩
    unfold exs at q
    cases hfl : T.fld cn with
    | none => simp only [hfl] at q; exact q.elim
    | some fs =>
      simp only [hfl] at q
      refine (ps_raise (c.calm h6) c.tk (c.rai _ fs hfl h6 h2 X.pn X.xe ((ha.a).a c.toCtx h5 .s h4) hns)).run pins s σ H D0 I ?_
      refine ⟨F, R, env, st, sm.so, sm.eo, (q.so sm).eqn.imp fun ds st1 F1 R1 H1 g1 so1 q0 => fun vs hvs => ?_⟩
      obtain ⟨q00, q1⟩ := q0
      obtain ⟨sm1, q2⟩ := q1
      have rr := RRs.rels hvs
      have hds : ds.length = 1 := (sems_ok _ _ _ _ q00).trans h3
      split at q2
      · rename_i hfs
        rcases ds with _ | ⟨d, _ | ⟨_, _⟩⟩ <;> first | (cases hds; done) | skip
        rcases fs with _ | ⟨f, _ | ⟨_, _⟩⟩ <;> first | (cases hfs; done) | skip
        have rr' := rr
        unfold Rels at rr'
        obtain ⟨w, ws, ew, r1, r2⟩ := rr'
        unfold Rels at r2
        subst r2
        subst ew
        refine ⟨w, f, rfl, rfl, fun dd hdd => ?_⟩
        refine q2 F1 R1 _ σ (some dd) (sm1.grow (Grow.newH hdd) (so1.newH hdd)) (.inr ⟨dd, [w], rfl, fun hm => ?_, upd_same, Rels.one r1⟩)
        obtain ⟨u, hu⟩ := so1.there hm
        rw [hdd] at hu
        cases hu
      · exact q2.elim
end
end Nb
end
section
set_option Elab.async false
set_option linter.all false
set_option maxRecDepth 100000
set_option maxHeartbeats 4000000
/-! NbW: try, with clauses that bind the error -/
namespace Nb
open PySem PySem.Spec PyProof.Rows L2

/-- the ways out, slot i dropped -/
abbrev cutE (D : Ends) (i : Nat) : Ends := { nx := fun σ H => D.nx (σ.set i none) H, rt := D.rt, bk := fun σ H => D.bk (σ.set i none) H, ct := fun σ H => D.ct (σ.set i none) H }
abbrev Cl1 := Nat × Value × (Addr → Value → Option Addr → TS)
/-- what the clauses ask of an error of the body, each one binding it -/
def wCl (K : PySem.W.Frag) (W0 : WX) (D : Ends) : List Cl1 → WX
  | [] => W0
  | t :: r => fun cl d σ H => ∃ b, PySem.W.exmOne K cl t.2.1 = some b ∧
      (b = true → ∀ a, H a = none → t.2.2 a cl d (cutE D t.1) (σ.set t.1 (some (.ref a))) H) ∧ (b = false → wCl K W0 D r cl d σ H)
inductive ClOk (X : Cx) : List ExceptHandler → List Cl1 → Prop
  | no : ClOk X [] []
  | on {x n : Str} {c : Value} {i : Nat} {f : Addr → Value → Option Addr → TS} {y : Stmt} {ys : List Stmt} {p1 p2 : Pos} {hs : List ExceptHandler} {l : List Cl1} (nm : Names X x c) (sl : X.N[i]? = some n) (lo : X.env.kindOf n = some .local)
      (su : ∀ (a : Addr) (o : Obj) (cl : Value) (d : Option Addr) (pn : List (Addr × Obj)), Zc cl d o → (∃ vs, o.data = .fields vs) → PSs (X.suite a ((a, o) :: pn)) (y :: ys) (f a cl d)) (r : ClOk X hs l) :
      ClOk X (.ExceptHandler (some (.Name x p1)) (some n) (y :: ys) p2 :: hs) ((i, c, f) :: l)
section
variable {X : Cx} {bo : List Stmt} {h0 : ExceptHandler} {hl : List ExceptHandler} {l : List Cl1} {pos : Pos} {tb : WX → TS} {W0 : WX}
theorem ps_tryA (hs : X.stack = X.env :: X.outer) (hf : X.env.frame = some X.env.locals) (nd : X.N.Nodup) (tk : Takes X W0)
    (hb : ∀ (W : WX) (pn : List (Addr × Obj)) (xe : Value → Shared → Prop), Takes (X.tr pn xe) W → PassesOwn (model X.prog X.w) X.A X.env xe → PSs (X.tr pn xe) bo (tb W))
    (hk : ClOk X (h0 :: hl) l) : PS X (.Try bo (h0 :: hl) [] [] pos) (fun D σ H => tb (wCl X.K W0 D l) D σ H) := by
  refine ⟨fun pins s σ H D I hq => ?_⟩
  have ok := I.ok
  have fr : X.A.frames = some (X.env :: X.outer) := ok.frames.trans (congrArg some hs)
  refine wpAny_Try_except (wpAny_mono ((hb (wCl X.K W0 D l) (X.pn ++ pins) (fun e s1 => wpAny (model X.prog X.w) X.A (noteFrame e X.env) (fun _ s2 => wpAny (model X.prog X.w) X.A (setFlight e none) (fun _ s3 =>
    wpAny (model X.prog X.w) X.A (handleBy e X.env (h0 :: hl)) (SP X pins D) X.xe s3) X.xe s2) X.xe s1) (fun u z xx => ?_) PassesOwn.looking).run [] s σ H D (I.toTry _) hq) (fun f s1 q => ?_) (fun _ _ z => z))
  · obtain ⟨a, B, sI, pins0, σ0, H0, kl, d, rfl, J0, nb, up, sky, na, eos, eg, w⟩ := xx
    have J : Inv X pins σ0 H0 sI := J0.ofTry ok
    have sky2 : Sky B (X.env :: X.outer) a (Zc kl d) X.env.locals z.heap := hs ▸ sky
    show wpAny (model X.prog X.w) X.A (noteFrame (.ref a) X.env) _ _ _
    refine Sky.land Zc.steady fr hf sky2 fun g3 f3 u3 => ?_
    have J3 : Inv X pins σ0 H0 { z with heap := g3 } := J.landed nb f3.1 (up.trans u3) eos eg
    obtain ⟨o3, v3, e3, z3, d3⟩ := f3.there
    have off : a ∉ L2.frs (X.env :: X.outer) := fun m => by
      obtain ⟨_, o', e', k⟩ := f3.2.2.1.mem m
      rw [e3] at e'
      cases e'
      exact k _ d3
    have nL : a ≠ X.env.locals := fun e => off (List.mem_filterMap.mpr ⟨X.env, List.mem_cons_self, hf.trans (congrArg some e.symm)⟩)
    have nF : a ∉ X.fs := fun m => by
      obtain ⟨e, m1, m2⟩ := List.mem_filterMap.mp m
      exact off (List.mem_filterMap.mpr ⟨e, List.mem_cons_of_mem _ m1, m2⟩)
    have S3 := J3.suite e3 d3 na nL nF
    have go : ∀ {hs' : List ExceptHandler} {l' : List Cl1}, ClOk X hs' l' → wCl X.K W0 D l' kl d σ0 H0 →
        wpAny (model X.prog X.w) X.A (handleBy (.ref a) X.env hs') (SP X pins D) X.xe { z with heap := g3 } := by
      intro hs' l' k
      induction k with
      | no =>
        intro w
        refine wpAny_handleBy_nil ?_
        obtain ⟨_, _, _, o, vs, T, oT, ts, he, hz, hd, h1, _⟩ := id f3
        have fin : wpAny (model X.prog X.w) X.A (setFlight (.ref a) X.env.frame) (fun _ s4 => wpAny (model X.prog X.w) X.A (throw (.ref a) : Sem Flow) (SP X pins D) X.xe s4) X.xe { z with heap := g3 } := by
          rw [hf]
          exact HandSPX.setFlight_upZ f3 fun g4 hg4 u4 => wpAny_throw (tk _ _ ⟨a, B, sI, pins, σ0, H0, kl, d, rfl, J, nb, (up.trans u3).trans u4, .inr (.inr (by rw [hs]; exact hg4)), na, eos, eg, w⟩)
        unfold PySem.passOn
        refine wpAny_bind (wpAny_field he hd h1 ?_)
        rw [if_neg (show ¬ ((Value.ref T == Value.none) = true) from by simp)]
        first
          | exact wpAny_bind (wpAny_pure (wpAny_bind fin))
          | exact wpAny_bind fin
      | @on x n c i f y ys p1 p2 hs2 l2 nm sl lo su r ih =>
        intro w
        obtain ⟨b, b1, yes, no⟩ := w
        refine wpAny_handleBy_cons (codeAny_handlers_test ?_) (by intro q; cases q)
        have tt : PySem.W.Looks (model X.prog X.w) g3 (typeOf (.ref a)) kl := fun A Q E s k q => wpAny_typeOf_ref (k _ _ e3) (by rw [z3.1]; exact q)
        have mm := PySem.W.exm_one (M := model X.prog X.w) J3.kIn tt b1
        have nmd : ∀ {Q : Value → Shared → Prop} {E : Value → Shared → Prop}, Q c { z with heap := g3 } → wpAny (model X.prog X.w) (X.A.mark (some (.ref a))) (eval (.Name x p1) X.env) Q E { z with heap := g3 } := fun {Q E} q => by
          obtain ⟨n1, n2, n3 | ⟨n3, n4, n5⟩⟩ := nm
          · exact ld_glob (X := X.suite a ((a, o3) :: (X.pn ++ pins))) S3 n1 n3 q n2
          · exact ld_blt (X := X.suite a ((a, o3) :: (X.pn ++ pins))) S3 n1 n3 n4 q n5 n2
        refine nmd (mm.here ?_)
        cases b with
        | false => exact ih (no rfl)
        | true =>
          refine codeAny_handlers_suite_as (HandSPX.lands_againZ f3 fun g4 f4 u4 => ?_)
          have J4 : Inv X pins σ0 H0 { z with heap := g4 } := J.landed nb f4.1 ((up.trans u3).trans u4) eos eg
          obtain ⟨o4, v4, e4, z4, d4⟩ := f4.there
          have S4 := J4.suite e4 d4 na nL nF
          refine store_ok (X := X.suite a ((a, o4) :: (X.pn ++ pins))) (v := .ref a) S4 nd sl (.inl lo) rfl (fun s5 S5 => ?_) (.inr lo)
          refine wpAny_mono ((su a o4 kl d (X.pn ++ pins) z4 ⟨_, d4⟩).run [] s5 _ H0 _ S5 (yes rfl a na)) (fun f6 s6 q6 => ?_) (fun _ _ z => z.elim)
          have fin : ∀ {σ6 : L2.St} {H6 : Hp} {Q : Shared → Prop}, Inv (X.suite a ((a, o4) :: (X.pn ++ pins))) [] σ6 H6 s6 → (∀ s7, Inv X pins (σ6.set i none) H6 s7 → Q s7) →
              wpAny (model X.prog X.w) X.A (do bindName X.env n .none; unbindBehindTheSuite X.env n p2) (fun _ s7 => Q s7) X.xe s6 := fun S6 q => gone_ok (S6.unsuite ok) nd sl lo q
          cases f6 with
          | next =>
            obtain ⟨_, _, S6, q⟩ := q6
            exact fin S6 fun s7 J7 => ⟨_, _, J7, q⟩
          | brk =>
            obtain ⟨_, _, S6, q⟩ := q6
            exact fin S6 fun s7 J7 => ⟨_, _, J7, q⟩
          | cont =>
            obtain ⟨_, _, S6, q⟩ := q6
            exact fin S6 fun s7 J7 => ⟨_, _, J7, q⟩
          | ret u =>
            obtain ⟨_, _, _, S6, r6, q⟩ := q6
            exact fin S6 fun s7 J7 => ⟨_, _, _, J7, r6, q⟩
    exact go hk w
  · cases f with
    | next =>
      obtain ⟨_, _, J, q2⟩ := q
      exact wpAny_execs_nil ⟨_, _, J.ofTry ok, q2⟩
    | brk =>
      obtain ⟨_, _, J, q2⟩ := q
      exact ⟨_, _, J.ofTry ok, q2⟩
    | cont =>
      obtain ⟨_, _, J, q2⟩ := q
      exact ⟨_, _, J.ofTry ok, q2⟩
    | ret u =>
      obtain ⟨_, _, _, J, r, q2⟩ := q
      exact ⟨_, _, _, J.ofTry ok, r, q2⟩
end
end Nb
end
section
set_option Elab.async false
set_option linter.all false
set_option maxRecDepth 100000
set_option maxHeartbeats 4000000
/-! NbX: the try statement -/
namespace Nb
open PySem PySem.Spec PyProof.Rows L2

section
variable {T : Tb} {cl : Cl} {X : Cx} {M : Mc} {EX : EXT} {W W' : WX}
theorem CtxS.tr (c : CtxS T cl X M EX W) (hc : M.calm = true) {pn : List (Addr × Obj)} {xe : Value → Shared → Prop} (tk : Takes (X.tr pn xe) W') (pas : PassesOwn (model X.prog X.w) X.A X.env xe) : CtxS T cl (X.tr pn xe) M EX W' where
  sc := c.sc
  N := c.N
  nd := c.nd
  calm := c.calm
  guards := c.guards
  units := c.units
  fn := c.fn
  tk := tk
  blt := c.blt
  con := c.con
  gti := c.gti
  xf := fun h => by rw [hc] at h; cases h
  cls := c.cls
  pas := pas
  rai := fun n fs h1 h2 h3 pn' xe' => c.rai n fs h1 h2 h3 pn' xe'
  stk := c.stk
  frm := c.frm
  ex0 := c.ex0
  exn := c.exn
  xfc := c.xfc
theorem CtxS.sui (c : CtxS T cl X M EX W) {a : Addr} {o : Obj} {kl : Value} {d : Option Addr} {pn : List (Addr × Obj)} (hz : Zc kl d o) (hv : ∃ vs, o.data = .fields vs) :
    CtxS T cl (X.suite a ((a, o) :: pn)) M.suite (fun a' c' d' => a' = a ∧ c' = kl ∧ d' = d) noW where
  sc := c.sc
  N := c.N
  nd := c.nd
  calm := fun h => absurd (show false = true from h) Bool.false_ne_true
  guards := c.guards
  units := c.units
  fn := c.fn
  tk := fun u s' ⟨_, _, _, _, _, _, _, _, _, _, _, _, _, _, _, _, w⟩ => w
  blt := c.blt
  con := c.con
  gti := c.gti
  xf := fun _ {e te p f} hp he => by
    have hb : attributeBase e f (X.suite a ((a, o) :: pn)).env (eval e (X.suite a ((a, o) :: pn)).env) = eval e (X.suite a ((a, o) :: pn)).env := by
      cases e <;> first | rfl | exact ff hp
    refine ⟨fun pins s σ H Q I h => attr_of hb (thn (he.run pins s σ H _ I h) fun u s1 hh => ?_)⟩
    obtain ⟨x, H1, I1, rx, a', n, d', dd, fs, v, ex, ⟨e1, e2, e3⟩, fb, ed, hdd, lk, q⟩ := hh
    subst ex
    subst e1
    subst e3
    subst ed
    obtain rfl : u = Value.ref a' := rx
    obtain ⟨t1, t2⟩ := c.xfc n f fb
    obtain ⟨ha, _⟩ := I1.pin (a', o) (List.mem_append_left _ List.mem_cons_self)
    obtain ⟨vs, hd⟩ := hv
    obtain ⟨mA, hns, hr⟩ := (show ObjOk X.prog X.w H1 s1.heap dd (.xd fs) from I1.hok dd _ hdd)
    obtain ⟨od, ho, hl⟩ := lookIn_ns hns
    obtain ⟨w, hw, rw'⟩ := RelO.some_of (v := v) (o := mA f) (by rw [← lk]; exact hr f)
    have J : PySem.W.InstAt s1.heap a' o (gAt X.K n) (some od) := ⟨ha, by rw [hz.1]; exact e2.symm, by unfold PySem.W.notCls; rw [hd] <;> rfl, by rw [hz.2]; exact ho⟩
    exact HandSPX.exc_get I1.kIn J t1.ga t1.gg t1.exC (PySem.W.findObj_own t1.hdC t2 rfl (by rw [hl, hw])) (handed_of rw') ⟨v, H1, I1.tok _, rw', q⟩
  cls := fun h => absurd (show false = true from h) Bool.false_ne_true
  pas := PassesOwn.never
  rai := fun _ _ _ h => absurd (show false = true from h) Bool.false_ne_true
  stk := c.stk
  frm := c.frm
  ex0 := fun h => absurd (show false = true from h) Bool.false_ne_true
  exn := c.exn
  xfc := c.xfc

/-! the clauses -/
def clsL (T : Tb) (cl : Cl) (K : PySem.W.Frag) : Hs → List Cl1
  | .nil => []
  | .cons c (some i) b hs => (i, .ref (gAt K c), fun a kl d => tS K (fun a' c' d' => a' = a ∧ c' = kl ∧ d' = d) noW (exss T cl b)) :: clsL T cl K hs
  | .cons c none b hs => clsL T cl K hs
theorem Sim.clr {K : PySem.W.Frag} {EX EX' : EXT} {B : Bs} {env : Enw} {st : Sto} {F : Hp} {R : List Addr} {H : Hp} {σ : L2.St} {i : Nat} (s : Sim K EX' B env st F R H σ) : Sim K EX B (Enw.clr (env.set i .no)) st F R H (σ.set i none) := by
  have key : ∀ (j : Nat) t, (Enw.clr (env.set i .no))[j]? = some t → t = .no ∨ (j ≠ i ∧ env[j]? = some t ∧ ∀ c fs, t ≠ .er c fs) := by
    intro j t h
    unfold Enw.clr at h
    rw [List.getElem?_map] at h
    by_cases e : i = j
    · subst e
      by_cases hi : i < env.length
      · rw [List.getElem?_set_self hi] at h
        cases h
        exact .inl rfl
      · rw [List.getElem?_eq_none (by simpa using hi)] at h
        cases h
    · rw [List.getElem?_set_ne e] at h
      cases h1 : env[j]? with
      | none => rw [h1] at h; cases h
      | some w =>
        rw [h1] at h
        cases w with
        | er c fs => cases h; exact .inl rfl
        | no => cases h; exact .inl rfl
        | va d => cases h; exact .inr ⟨fun z => e z.symm, rfl, fun _ _ z => by cases z⟩
        | ow d => cases h; exact .inr ⟨fun z => e z.symm, rfl, fun _ _ z => by cases z⟩
  refine ⟨s.so, ⟨by unfold Enw.clr; rw [List.length_map, List.length_set, List.length_set]; exact s.eo.len, fun j t o h1 h2 => ?_, fun j k a d e h1 h2 h3 h4 => ?_⟩, s.g, s.lf, fun j d a h1 h2 => ?_⟩
  · rcases key j t h1 with rfl | ⟨n, g, k⟩
    · exact trivial
    · rw [List.getElem?_set_ne (fun z => n z.symm)] at h2
      have q := s.eo.sl j t o g h2
      cases t with
      | er c fs => exact absurd rfl (k c fs)
      | no => exact trivial
      | va d => exact q
      | ow d => exact q
  · rcases key j _ h1 with z | ⟨n1, g1, _⟩
    · cases z
    · rcases key k _ h2 with z | ⟨n2, g2, _⟩
      · cases z
      · rw [List.getElem?_set_ne (fun z => n1 z.symm)] at h3
        rw [List.getElem?_set_ne (fun z => n2 z.symm)] at h4
        exact s.eo.sep j k a d e g1 g2 h3 h4
  · rcases key j _ h1 with z | ⟨n, g, _⟩
    · cases z
    · rw [List.getElem?_set_ne (fun z => n z.symm)] at h2
      exact s.nw j d a g h2
theorem Sim.err {K : PySem.W.Frag} {EX : EXT} {B : Bs} {env : Enw} {st : Sto} {F : Hp} {R : List Addr} {H : Hp} {σ : L2.St} {i : Nat} {c : Str} {fs : List (Str × D)} {a : Addr} {kl : Value} {d : Option Addr} (s : Sim K EX B env st F R H σ) (no : ∀ a c d, ¬ EX a c d)
    (hk : kl = .ref (gAt K c)) (x : XFs K F R H fs d) : Sim K (fun a' c' d' => a' = a ∧ c' = kl ∧ d' = d) B (env.set i (.er c fs)) st F R H (σ.set i (some (.ref a))) := by
  have key : ∀ (j : Nat) (t : Sl), (env.set i (.er c fs))[j]? = some t → (j = i ∧ t = .er c fs) ∨ (j ≠ i ∧ env[j]? = some t) := by
    intro j t h
    by_cases e : i = j
    · subst e
      by_cases hi : i < env.length
      · rw [List.getElem?_set_self hi] at h
        cases h
        exact .inl ⟨rfl, rfl⟩
      · rw [List.getElem?_eq_none (by simpa using hi)] at h
        cases h
    · rw [List.getElem?_set_ne e] at h
      exact .inr ⟨fun z => e z.symm, h⟩
  refine ⟨s.so, ⟨by rw [List.length_set, List.length_set]; exact s.eo.len, fun j t o h1 h2 => ?_, fun j k a d e h1 h2 h3 h4 => ?_⟩, s.g, s.lf, fun j d a h1 h2 => ?_⟩
  · rcases key j t h1 with ⟨rfl, rfl⟩ | ⟨n, g⟩
    · by_cases hi : j < σ.length
      · rw [List.getElem?_set_self hi] at h2
        cases h2
        exact ⟨a, d, rfl, ⟨rfl, hk.symm, rfl⟩, x⟩
      · rw [List.getElem?_eq_none (by simpa using hi)] at h2
        cases h2
    · rw [List.getElem?_set_ne (fun z => n z.symm)] at h2
      have q := s.eo.sl j t o g h2
      cases t with
      | er c fs => obtain ⟨_, _, _, z, _⟩ := q; exact absurd z (no _ _ _)
      | no => exact trivial
      | va d => exact q
      | ow d => exact q
  · rcases key j _ h1 with ⟨_, z⟩ | ⟨n1, g1⟩
    · cases z
    · rcases key k _ h2 with ⟨_, z⟩ | ⟨n2, g2⟩
      · cases z
      · rw [List.getElem?_set_ne (fun z => n1 z.symm)] at h3
        rw [List.getElem?_set_ne (fun z => n2 z.symm)] at h4
        exact s.eo.sep j k a d e g1 g2 h3 h4
  · rcases key j _ h1 with ⟨_, z⟩ | ⟨n, g⟩
    · cases z
    · rw [List.getElem?_set_ne (fun z => n z.symm)] at h2
      exact s.nw j d a g h2
/-- each clause's suite is sound -/
inductive SndHs (T : Tb) (cl : Cl) : Hs → Prop
  | nil : SndHs T cl .nil
  | cons {c : Str} {i : Option Nat} {b : Ss} {hs : Hs} : SndSs T cl b → SndHs T cl hs → SndHs T cl (.cons c i b hs)
theorem W_ok {K : PySem.W.Frag} {B : Bs} {D0 : Ends} {F : Hp} {R : List Addr} {H : Hp} {σ : L2.St} {n : Str} {fs : List (Str × D)} {st : Sto} {d : Option Addr}
    (no : ∀ a c d, ¬ EX a c d) (exn : ∀ c c', T.hn c = true → T.hn c' = true → PySem.W.exmOne K (.ref (gAt K c)) (.ref (gAt K c')) = some (T.sub c c')) (hs : Hs) :
    ∀ {l : List ExceptHandler}, matHs M hs l = true → ∀ env, Sim K EX B env st F R H σ → XFs K F R H fs d → AO K EX W B D0 (exh T cl hs n fs env st) → wCl K W D0 (clsL T cl K hs) (.ref (gAt K n)) d σ H := by
  intro l hm env sm x ao
  cases hs with
  | nil =>
    unfold exh at ao
    exact ao F R H σ d sm x
  | cons c' oi b hs =>
    cases oi with
    | none => cases l <;> exact ff hm
    | some i =>
      have hm' : ∃ l', matHs M hs l' = true := by
        rcases l with _ | ⟨⟨_ | ⟨e⟩, _ | nm, body, p⟩, r⟩ <;> first | exact ff hm | skip
        all_goals (cases e <;> first | exact ff hm | exact ⟨r, (b2 hm).2⟩)
      obtain ⟨l', hm'⟩ := hm'
      unfold exh at ao
      split at ao
      · rename_i hh
        obtain ⟨h1, h2⟩ := b2 hh
        refine ⟨T.sub n c', exn n c' h1 h2, fun e a na => ?_, fun e => ?_⟩
        · rw [if_pos e] at ao
          dsimp only at ao
          refine ⟨B, F, R, env.set i (.er n fs), st, sm.err no rfl x, ?_⟩
          cases eo : exss T cl b (env.set i (.er n fs)) st with
          | nx e1 s1 => rw [eo] at ao; exact fun F R H σ s => ao F R H _ s.clr
          | bk e1 s1 => rw [eo] at ao; exact fun F R H σ s => ao F R H _ s.clr
          | ct e1 s1 => rw [eo] at ao; exact fun F R H σ s => ao F R H _ s.clr
          | rt v s1 => rw [eo] at ao; exact ao
          | ex _ _ _ _ => rw [eo] at ao; exact ao.elim
          | bad => rw [eo] at ao; exact ao.elim
        · rw [if_neg (by rw [e]; exact Bool.false_ne_true)] at ao
          exact W_ok no exn hs hm' env sm x ao
      · exact ao.elim
theorem hs_ok (c : CtxS T cl X M EX W) : ∀ {hs : Hs}, SndHs T cl hs → Hs.hnB T hs = true → ∀ {l : List ExceptHandler}, matHs M hs l = true → ClOk X l (clsL T cl X.K hs) := by
  intro hs k
  induction k with
  | nil =>
    intro _ l h
    cases l with
    | nil => exact .no
    | cons _ _ => exact ff h
  | @cons c' oi b hs sb r ih =>
    intro hn l h
    rcases l with _ | ⟨⟨_ | ⟨e⟩, _ | nm, body, p⟩, r⟩ <;> cases oi <;> first | exact ff h | skip
    all_goals (cases e <;> first | exact ff h | skip)
    obtain ⟨n1, n2⟩ := b2 hn
    obtain ⟨k1, h7⟩ := b2 h
    obtain ⟨k2, h6⟩ := b2 k1
    obtain ⟨k3, h5⟩ := b2 k2
    obtain ⟨k4, h4⟩ := b2 k3
    obtain ⟨k5, h3⟩ := b2 k4
    obtain ⟨h1, h2⟩ := b2 k5
    have h1 := (of_decide_eq_true h1).symm
    subst h1
    obtain ⟨g1, g2⟩ := c.glo h2
    rcases body with _ | ⟨y, ys⟩
    · cases h5
    · refine .on ⟨g1, g2, .inl (c.exn _ _ n1 n1).1⟩ (c.slot h3) ?_ (fun a o kl d pn hz hv => sb.s (c.sui hz hv) h6) (ih n2 h7)
      have z := lcl_ok h4
      rw [← c.sc] at z
      exact z
theorem snS_tri {b : Ss} {hs : Hs} (hb : SndSs T cl b) (hh : SndHs T cl hs) : SndS T cl (.tri b hs) where
  s := fun {X M EX W} c st h => by
    cases st <;> first | exact ff h | skip
    rename_i body hnds ore fin p
    cases ore <;> cases fin <;> first | exact ff h | skip
    obtain ⟨k0, h4⟩ := b2 h
    obtain ⟨k1, h3⟩ := b2 k0
    obtain ⟨h1, h2⟩ := b2 k1
    cases hn : Hs.hnB T hs with
    | false =>
      refine ⟨fun pins s σ H D0 I ⟨B, F, R, env, st, sm, q⟩ => ?_⟩
      unfold exs at q
      rw [hn] at q
      exact q.elim
    | true =>
      have ck := hs_ok c hh hn h2
      cases hnds with
      | nil => cases h4
      | cons h0 hl =>
        refine ps_imp (ps_tryA (tb := fun W => tS X.K EX W (exss T cl b)) c.stk c.frm c.nd c.tk (fun W' pn xe tk pas => hb.s (c.tr h3 tk pas) h1) ck) fun D0 σ H ⟨B, F, R, env, st, sm, q⟩ => ?_
        unfold exs at q
        rw [if_pos hn] at q
        refine ⟨B, F, R, env, st, sm, ?_⟩
        cases eo : exss T cl b env st with
        | nx e1 s1 => rw [eo] at q; exact q
        | bk e1 s1 => rw [eo] at q; exact q
        | ct e1 s1 => rw [eo] at q; exact q
        | rt v s1 => rw [eo] at q; exact q
        | bad => rw [eo] at q; exact q
        | ex n fs e1 s1 =>
          rw [eo] at q
          exact fun F R H σ d sm x => W_ok (c.ex0 h3) (fun c1 c2 x1 x2 => (c.exn c1 c2 x1 x2).2) hs h2 e1 sm x q
end
end Nb
end
section
set_option Elab.async false
set_option linter.all false
set_option maxRecDepth 100000
set_option maxHeartbeats 4000000
/-! NbY: list comprehensions with two clauses -/
namespace Nb
open PySem PySem.Spec PyProof.Rows L2

theorem gdI_s {it : It} : gdI .s it = stgI it := by cases it <;> rfl
theorem lc2Parts_eq {e x : Expr} {tg iter tg1 iter1 : Expr} {ifs ifs1 : List Expr} {a b : Int} {scope : Scope} (h : lc2Parts e = some (x, ⟨tg, iter, ifs, a⟩, ⟨tg1, iter1, ifs1, b⟩, scope)) : ∃ p, e = .ListComp x [⟨tg, iter, ifs, 0⟩, ⟨tg1, iter1, ifs1, 0⟩] scope p := by
  unfold lc2Parts at h
  split at h
  · split at h
    · rename_i h0
      cases h
      obtain ⟨h0, h1⟩ := h0
      have h0 : a = 0 := h0
      have h1 : b = 0 := h1
      subst h0
      subst h1
      exact ⟨_, rfl⟩
    · cases h
  · cases h
theorem mat_lc2 {M : Mc} {e : Expr} {w w1 : List Nat} {t t1 : Tg} {it it1 : It} {c : Op} {el : Ex} (h : mat M (.lc2 w w1 t it t1 it1 c el) e = true) : ∃ x tg iter tg1 iter1 ifs1 scope p, e = .ListComp x [⟨tg, iter, [], 0⟩, ⟨tg1, iter1, ifs1, 0⟩] scope p ∧
    blkC M.N M.sc scope (ownOf M.N w) = true ∧ (ownOf M.N w).map (·.2) = w ∧ notSet iter = true ∧ notSet iter1 = true ∧ matI M it iter tg = true ∧ tgIn w t = true ∧ (∀ i ∈ w1, i ∈ w) ∧ tgIn w1 t1 = true ∧ matT (M.blk scope) t tg = true ∧
    stgI it1 = true ∧ matI (M.blk scope) it1 iter1 tg1 = true ∧ matT (M.blk scope) t1 tg1 = true ∧ matC (M.blk scope) c ifs1 = true ∧ stg el = true ∧ mat (M.blk scope) el x = true ∧ M.calm = true := by
  unfold mat at h
  cases e1 : lc2Parts e with
  | none => rw [e1] at h; exact ff h
  | some q =>
    obtain ⟨x, ⟨tg, iter, ifs, a⟩, ⟨tg1, iter1, ifs1, b⟩, scope⟩ := q
    rw [e1] at h
    obtain ⟨p, rfl⟩ := lc2Parts_eq e1
    obtain ⟨a17, h17⟩ := b2 h
    obtain ⟨a16, h16⟩ := b2 a17
    obtain ⟨a15, h15⟩ := b2 a16
    obtain ⟨a14, h14⟩ := b2 a15
    obtain ⟨a13, h13⟩ := b2 a14
    obtain ⟨a12, h12⟩ := b2 a13
    obtain ⟨a11, h11⟩ := b2 a12
    obtain ⟨a10, h10⟩ := b2 a11
    obtain ⟨a9, h9⟩ := b2 a10
    obtain ⟨a8, h8⟩ := b2 a9
    obtain ⟨a7, h7⟩ := b2 a8
    obtain ⟨a6, h6⟩ := b2 a7
    obtain ⟨a5, h5⟩ := b2 a6
    obtain ⟨a4, h4⟩ := b2 a5
    obtain ⟨a3, h3⟩ := b2 a4
    obtain ⟨a2, h2⟩ := b2 a3
    cases ifs with
    | cons _ _ => cases h10
    | nil => exact ⟨_, _, _, _, _, _, _, _, rfl, a2, of_decide_eq_true h2, h3, h4, h5, h6, fun i hi => by simpa using List.all_eq_true.mp h7 i hi, h8, h9, h11, h12, h13, h14, h15, h16, h17⟩
theorem lcLoop2_cons {f : D → Sto → Res (List D)} {d : D} {ds : List D} {st : Sto} {xs : List D} {s2 : Sto} (h : lcLoop2 f (d :: ds) st = .ok xs s2) :
    ∃ o st1 r, f d st = .ok o st1 ∧ lcLoop2 f ds st1 = .ok r s2 ∧ xs = o ++ r := by
  unfold lcLoop2 at h
  cases e1 : f d st with
  | bad => rw [e1] at h; cases h
  | exc _ _ _ => rw [e1] at h; cases h
  | ok o st1 =>
    rw [e1] at h
    change (lcLoop2 f ds st1).bind _ = _ at h
    cases e2 : lcLoop2 f ds st1 with
    | bad => rw [e2] at h; cases h
    | exc _ _ _ => rw [e2] at h; cases h
    | ok r st2 =>
      rw [e2] at h
      cases h
      exact ⟨o, st1, r, rfl, e2, rfl⟩
section
variable {T : Tb} {cl : Cl} {X : Cx} {EX : EXT}
/-- a turn of the first clause -/
def turn2 (T : Tb) (cl : Cl) (w w1 : List Nat) (t : Tg) (t1 : Tg) (it1 : It) (cc : Op) (el : Ex) (e : Enw) (d : D) (s : Sto) : Res (List D) := match bindT t d (e.wipe w) with
  | none => .bad
  | some e1 => (semI T cl it1 e1 s).bind fun ds1 s' => lcLoop (turnC w1 t1 (semC T cl cc) (sem T cl el).v e1) ds1 s'
theorem turn2_ok {w w1 : List Nat} {t t1 : Tg} {it1 : It} {cc : Op} {el : Ex} {e : Enw} {d : D} {s : Sto} {o : List D} {s2 : Sto} (h : turn2 T cl w w1 t t1 it1 cc el e d s = .ok o s2) :
    ∃ e1 ds1 s', bindT t d (e.wipe w) = some e1 ∧ semI T cl it1 e1 s = .ok ds1 s' ∧ lcLoop (turnC w1 t1 (semC T cl cc) (sem T cl el).v e1) ds1 s' = .ok o s2 := by
  unfold turn2 at h
  cases e0 : bindT t d (e.wipe w) with
  | none => rw [e0] at h; cases h
  | some e1 =>
    rw [e0] at h
    simp only at h
    cases e2 : semI T cl it1 e1 s with
    | bad => rw [e2] at h; cases h
    | exc _ _ _ => rw [e2] at h; cases h
    | ok ds1 s' =>
      rw [e2] at h
      exact ⟨e1, ds1, s', rfl, e2, h⟩
/-- ahead of the first clause's turn i -/
structure L2a (K : PySem.W.Frag) (F1 : Hp) (R1 : List Addr) (H1 : Hp) (f : D → Sto → Res (List D)) (ds xs : List D) (s2 : Sto) (Dl : Addr) (i : Nat) (H : Hp) : Prop where
  h : ∃ F R st acc vs rest, Grow F1 R1 H1 F R H ∧ StOk K F R H st ∧ F Dl = none ∧ Dl ∉ R ∧ H Dl = some (.lst vs) ∧ Rels K F R acc vs ∧ i ≤ ds.length ∧ lcLoop2 f (ds.drop i) st = .ok rest s2 ∧ xs = acc ++ rest
/-- all but Dl -/
def hideD (Dl : Addr) (H : Hp) : Hp := fun b => if b = Dl then none else H b
theorem hideD_ne {Dl b : Addr} {H : Hp} (h : b ≠ Dl) : hideD Dl H b = H b := if_neg h
theorem hideD_some {Dl b : Addr} {H : Hp} {o : HO} (h : hideD Dl H b = some o) : b ≠ Dl ∧ H b = some o := by
  by_cases e : b = Dl
  · subst e; rw [show hideD b H b = none from if_pos rfl] at h; cases h
  · rw [hideD_ne e] at h; exact ⟨e, h⟩
theorem Grow.hide {F : Hp} {R : List Addr} {H : Hp} {Dl : Addr} : Grow F R (hideD Dl H) F R H :=
  ⟨Same.refl _, List.prefix_rfl, fun _ _ h _ => (hideD_some h).2, fun a h => by
    by_cases e : a = Dl
    · exact if_pos e
    · rw [hideD_ne e]; exact h, fun _ h1 h2 => absurd h1 h2, fun _ h1 h2 => absurd h1 h2⟩
theorem EnvOk.hide {K : PySem.W.Frag} {F : Hp} {R : List Addr} {H : Hp} {env : Enw} {σ : L2.St} {Dl : Addr} {vs : List V} (h : EnvOk K EX F R H env σ) (hd : H Dl = some (.lst vs)) (no : ∀ (i : Nat) (d : D), env[i]? = some (.ow d) → σ[i]? ≠ some (some (.ref Dl))) : EnvOk K EX F R (hideD Dl H) env σ := by
  refine ⟨h.len, fun i s o h1 h2 => ?_, h.sep⟩
  have q := h.sl i s o h1 h2
  cases s with
  | no => exact trivial
  | va d => exact q
  | ow d =>
    obtain ⟨a, e, f1, f2, f3⟩ := q
    subst e
    have ne : a ≠ Dl := fun e => no i d h1 (by rw [h2, e])
    exact ⟨a, rfl, f1, f2, f3.mono (Same.refl _) List.prefix_rfl fun o ho => by rw [hideD_ne ne]; exact ho⟩
  | er c fs =>
    obtain ⟨a, d, e, x, y⟩ := q
    refine ⟨a, d, e, x, ?_⟩
    rcases y with y | ⟨dd, ws, e1, e2, e3, e4⟩
    · exact .inl y
    · refine .inr ⟨dd, ws, e1, e2, ?_, e4⟩
      have ne : dd ≠ Dl := fun z => by
        rw [z, hd] at e3
        cases e3
      rw [hideD_ne ne]
      exact e3
/-- ahead of the second clause's turn j -/
structure L2b (K : PySem.W.Frag) (F1 : Hp) (R1 : List Addr) (H1 : Hp) (F4 : Hp) (R4 : List Addr) (H4 : Hp) (f : D → Sto → Res (List D)) (f1 : D → Sto → Res (Option D)) (ds xs : List D) (s2 : Sto) (Dl : Addr) (i : Nat) (ds1 : List D) (s' : Sto) (j : Nat) (H : Hp) : Prop where
  h : ∃ F R st acc vs r1 rest, Grow F1 R1 H1 F R H ∧ Grow F4 R4 (hideD Dl H4) F R H ∧ StOk K F R H st ∧ F Dl = none ∧ Dl ∉ R ∧ H Dl = some (.lst vs) ∧ Rels K F R acc vs ∧ j ≤ ds1.length ∧ lcLoop f1 (ds1.drop j) st = .ok r1 s' ∧ lcLoop2 f (ds.drop (i + 1)) s' = .ok rest s2 ∧ xs = acc ++ (r1 ++ rest)
theorem lc2_walk {w w1 : List Nat} {t t1 : Tg} {it1 : It} {cc : Op} {el : Ex} {J : L2.It} {ds xs : List D} {s1 s2 : Sto} {m : Md} {Q : VK} {σ : L2.St} {env : Enw} {F1 : Hp} {R1 : List Addr} {H1 : Hp}
    (so1 : StOk X.K F1 R1 H1 s1) (eo1 : EnvOk X.K EX F1 R1 H1 env σ) (wk : Walk X.K (reach .t F1 R1 H1) J ds) (hbig : xs.length ≤ big) (hw : tgIn w t = true) (hw1 : tgIn w1 t1 = true)
    (e1 : lcLoop2 (turn2 T cl w w1 t t1 it1 cc el env) ds s1 = .ok xs s2) (k : Fin m X.K F1 R1 H1 s2 (.lst xs) Q) : ∀ Dl, H1 Dl = none → ∃ Wf : Nat → Nat → Hp → Prop, (∃ m, Wf 0 m (upd H1 Dl (.lst []))) ∧ ∀ i m H, Wf i m H →
      ((J.stop i H ∧ Q (.ref Dl) H) ∨ (J.go i H ∧ ∃ Nx : Hp → Prop, (∀ H', Nx H' → ∃ m', m' < m ∧ Wf (i + 1) m' H') ∧ ∀ x H', J.yld i H x H' → gD X.K EX t x (wipe σ w) H' fun σ2 H2 => wipe σ2 w = wipe σ w ∧ tYes σ2 H2 fun b H3 =>
        if b = true then tI .s X.K EX noW (semI T cl it1) σ2 H3 fun J1 H4 => ∃ W1 : Nat → Nat → Hp → Prop, (∃ m, W1 0 m H4) ∧ ∀ j k H, W1 j k H →
          (J1.stop j H ∧ Nx H) ∨ (J1.go j H ∧ ∃ Nx1 : Hp → Prop, (∀ H', Nx1 H' → ∃ k', k' < k ∧ W1 (j + 1) k' H') ∧ ∀ x H', J1.yld j H x H' → gD X.K EX t1 x (wipe σ2 w1) H' fun σ3 H5 => wipe σ3 w1 = wipe σ2 w1 ∧ tT X.K EX noW (semC T cl cc) σ3 H5 fun b H6 =>
            if b = true then tE .s X.K EX noW (sem T cl el).v σ3 H6 fun y H7 => ∃ acc, H7 Dl = some (.lst acc) ∧ acc.length < sizeLine ∧ Nx1 (upd H7 Dl (.lst (acc ++ [y]))) else Nx1 H6)
        else Nx H3)) := fun Dl hD => by
  let f := turn2 T cl w w1 t t1 it1 cc el env
  refine ⟨fun i m H => m = ds.length - i ∧ L2a X.K F1 R1 H1 f ds xs s2 Dl i H, ⟨ds.length, by simp, ?_⟩, ?_⟩
  · have hr : Dl ∉ R1 := fun h => by
      obtain ⟨o, ho⟩ := so1.there h
      rw [hD] at ho; cases ho
    exact ⟨F1, R1, s1, [], [], xs, .newH hD, so1.newH hD, so1.same.free hD, hr, upd_same, Rels.nil, Nat.zero_le _, by simpa using e1, rfl⟩
  rintro i mm H ⟨rfl, F, R, st, acc, vs, rest, g, so, hf, hr, hv, rr, hi, hl, hx⟩
  by_cases hlt : i < ds.length
  · right
    have hd : ds[i]? = some ds[i] := List.getElem?_eq_getElem hlt
    obtain ⟨w1', w2⟩ := wk.go F R H st i _ g so hd
    refine ⟨w1', fun H' => L2a X.K F1 R1 H1 f ds xs s2 Dl (i + 1) H', fun H' h => ⟨ds.length - (i + 1), by omega, rfl, h⟩, fun x H' hy => ?_⟩
    obtain ⟨F', g', so', rx⟩ := w2 x H' hy
    rw [List.drop_eq_getElem_cons hlt] at hl
    obtain ⟨o, st1, r, l1, l2, l3⟩ := lcLoop2_cons hl
    obtain ⟨en, ds1, s', t1', t2, t3⟩ := turn2_ok l1
    have gg := g.trans g'
    have hv' : H' Dl = some (.lst vs) := g'.keep Dl _ hv hr
    obtain ⟨hr', hf'⟩ := g'.offR hv hr hf
    have eo' : EnvOk X.K EX F' R H' (env.wipe w) (wipe σ w) := (eo1.grow gg).wipe w
    refine ⟨F', R, st, _, ds[i], en, so', eo', rx, t1', fun σ' eo2 hw2 kow => ⟨by rw [hw2 w hw]; exact wipe_wipe, ?_⟩⟩
    unfold tYes
    simp only [if_true]
    refine ⟨F', R, en, st, so', eo2, ?_⟩
    rw [t2]
    intro F4 R4 H4 g4 so4 J1 wk1
    have hv4 : H4 Dl = some (.lst vs) := g4.keep Dl _ hv' hr'
    obtain ⟨hr4, hf4⟩ := g4.offR hv' hr' hf'
    have r4 : Rels X.K F4 R4 acc vs := (rr.mono g'.sameF g'.pre).mono g4.sameF g4.pre
    have eoh : EnvOk X.K EX F4 R4 (hideD Dl H4) en σ' := (eo2.grow g4).hide hv4 fun jj d hh hs => by
      obtain ⟨k1, k2⟩ := kow jj d hh
      obtain ⟨a, z1, z2, z3, z4⟩ := (eo1.wipe w).sl jj _ _ k2 (k1.symm.trans hs)
      cases z1
      obtain ⟨o, ho⟩ := z4.ex
      rw [hD] at ho
      cases ho
    let f1 := turnC w1 t1 (semC T cl cc) (sem T cl el).v en
    refine ⟨fun j k H => k = ds1.length - j ∧ L2b X.K F1 R1 H1 F4 R4 H4 f f1 ds xs s2 Dl i ds1 st1 j H, ⟨ds1.length, by simp, ⟨F4, R4, s', acc, vs, o, r, gg.trans g4, .hide, so4, hf4, hr4, hv4, r4, Nat.zero_le _, by simpa using t3, l2, by rw [hx, l3]⟩⟩, ?_⟩
    rintro j kk H5 ⟨rfl, F5, R5, st5, acc5, vs5, r15, rest5, g5, gh5, so5, hf5, hr5, hv5, rr5, hj, hl5, hl6, hx5⟩
    by_cases hlt1 : j < ds1.length
    · right
      have hd1 : ds1[j]? = some ds1[j] := List.getElem?_eq_getElem hlt1
      obtain ⟨y1, y2⟩ := wk1.go F5 R5 H5 st5 j _ ⟨gh5.sameF, gh5.pre⟩ so5 hd1
      refine ⟨y1, fun H' => L2b X.K F1 R1 H1 F4 R4 H4 f f1 ds xs s2 Dl i ds1 st1 (j + 1) H', fun H' h => ⟨ds1.length - (j + 1), by omega, rfl, h⟩, fun x1 H6 hy1 => ?_⟩
      obtain ⟨F6, g6, so6, rx1⟩ := y2 x1 H6 hy1
      rw [List.drop_eq_getElem_cons hlt1] at hl5
      obtain ⟨o5, st7, rr7, m1, m2, m3⟩ := lcLoop_cons hl5
      obtain ⟨e3, b, s8, n1, n2, n3⟩ := turnC_ok m1
      have hv6 : H6 Dl = some (.lst vs5) := g6.keep Dl _ hv5 hr5
      obtain ⟨hr6, hf6⟩ := g6.offR hv5 hr5 hf5
      have eo6 : EnvOk X.K EX F6 R5 H6 (en.wipe w1) (wipe σ' w1) := (eoh.grow (gh5.trans g6)).wipe w1
      refine ⟨F6, R5, st5, _, ds1[j], e3, so6, eo6, rx1, n1, fun σ3 eo7 hw7 _ => ⟨by rw [hw7 w1 hw1]; exact wipe_wipe, F6, R5, e3, st5, so6, eo7, ?_⟩⟩
      rw [n2]
      intro F7 R7 H7 g7 so7
      have hv7 : H7 Dl = some (.lst vs5) := g7.keep Dl _ hv6 hr6
      obtain ⟨hr7, hf7⟩ := g7.offR hv6 hr6 hf6
      rcases n3 with ⟨hb, x', t4, ho⟩ | ⟨hb, ho, hs⟩
      · subst hb ho
        show if true = true then _ else _
        rw [if_pos rfl]
        refine ⟨F7, R7, e3, s8, so7, eo7.grow g7, ?_⟩
        rw [t4]
        intro F8 R8 H8 g8 so8
        refine ⟨trivial, fun y ry => ?_⟩
        have hv8 : H8 Dl = some (.lst vs5) := g8.keep Dl _ hv7 hr7
        obtain ⟨hr8, hf8⟩ := g8.offR hv7 hr7 hf7
        have r8 : Rels X.K F8 R8 acc5 vs5 := ((rr5.mono g6.sameF g6.pre).mono g7.sameF g7.pre).mono g8.sameF g8.pre
        have m3' : r15 = x' :: rr7 := m3
        have hxx : xs = (acc5 ++ [x']) ++ (rr7 ++ rest5) := by rw [hx5, m3']; simp [List.append_assoc]
        have hll : acc5.length < big := by
          have : xs.length = acc5.length + 1 + (rr7 ++ rest5).length := by rw [hxx]; simp; omega
          omega
        refine ⟨vs5, hv8, by rw [← r8.len, sizeLine_eq]; exact hll, F8, R8, st7, acc5 ++ [x'], vs5 ++ [y], rr7, rest5, (((g5.trans g6).trans g7).trans g8).mut hD, (((gh5.trans g6).trans g7).trans g8).mut (if_pos rfl), so8.mut hf8 hr8, hf8, hr8, upd_same, r8.app (Rels.one ry), hlt1, m2, hl6, hxx⟩
      · subst hb ho hs
        show if false = true then _ else _
        rw [if_neg Bool.false_ne_true]
        exact ⟨F7, R7, _, acc5, vs5, rr7, rest5, (g5.trans g6).trans g7, (gh5.trans g6).trans g7, so7, hf7, hr7, hv7, (rr5.mono g6.sameF g6.pre).mono g7.sameF g7.pre, hlt1, m2, hl6, by rw [hx5, show r15 = rr7 from m3]⟩
    · left
      have e : j = ds1.length := by omega
      subst e
      refine ⟨wk1.stop F5 R5 H5 st5 ⟨gh5.sameF, gh5.pre⟩ so5, ?_⟩
      rw [List.drop_length] at hl5
      cases hl5
      exact ⟨F5, R5, st1, acc5, vs5, rest5, g5, so5, hf5, hr5, hv5, rr5, hlt, hl6, by rw [hx5]; simp⟩
  · left
    have e : i = ds.length := by omega
    subst e
    refine ⟨wk.stop F R H st g so, ?_⟩
    rw [List.drop_length] at hl
    cases hl
    rw [List.append_nil] at hx
    subst hx
    exact k.done g so hD hf hr ⟨vs, hv, rr⟩
theorem lc2_rd {X : Cx} {EX : EXT} {W : WX} {w w1 : List Nat} {t t1 : Tg} {it it1 : It} {cc : Op} {el : Ex} {m : Md} (h5 : tgIn w t = true) (h6 : tgIn w1 t1 = true) : ∀ σ H Q, tE m X.K EX W (sem T cl (.lc2 w w1 t it t1 it1 cc el)).v σ H Q →
    tLc2 (tI .t X.K EX W (semI T cl it)) (gD X.K EX t) tYes (tI .s X.K EX noW (semI T cl it1)) (gD X.K EX t1) (tT X.K EX noW (semC T cl cc)) (tE .s X.K EX noW (sem T cl el).v) w w1 σ H Q := fun σ H Q ⟨F, R, env, st, so, eo, q⟩ => by
  refine ⟨F, R, env, st, so, eo, q.bind.eqn.imp fun ds s1 F1 R1 H1 g1 so1 q1 J wk => ?_⟩
  obtain ⟨q0, q1⟩ := q1
  cases e1 : (lcLoop2 (turn2 T cl w w1 t t1 it1 cc el env) ds s1).nox with
  | bad =>
    have q2 := q1.bind
    replace q2 : After X.K W σ F1 R1 H1 (lcLoop2 (turn2 T cl w w1 t t1 it1 cc el env) ds s1).nox _ := q2
    rw [e1] at q2
    exact q2.elim
  | exc _ _ _ =>
    cases e2 : lcLoop2 (turn2 T cl w w1 t t1 it1 cc el env) ds s1 <;> rw [e2] at e1 <;> cases e1
  | ok xs s2 =>
    replace q1 : After X.K W σ F1 R1 H1 ((lcLoop2 (turn2 T cl w w1 t t1 it1 cc el env) ds s1).nox.bind fun xs s2 => if xs.length ≤ big then Res.ok (D.lst xs) s2 else Res.bad) _ := q1
    rw [e1] at q1
    replace q1 : After X.K W σ F1 R1 H1 (if xs.length ≤ big then Res.ok (D.lst xs) s2 else Res.bad) _ := q1
    have e2 := nox_ok e1
    by_cases hx : xs.length ≤ big
    · rw [if_pos hx] at q1
      have k : Fin m X.K F1 R1 H1 s2 (.lst xs) Q := fun F' R' H' v g so' r => (q1 F' R' H' g so').2 v (r.back g1.back)
      exact lc2_walk so1 (eo.grow g1) wk hx h5 h6 e2 k
    · rw [if_neg hx] at q1
      exact q1.elim
theorem snd_lc2 {w w1 : List Nat} {t t1 : Tg} {it it1 : It} {cc : Op} {el : Ex} (hi : SndI T cl it) (hg : gdI .t it = true) (hi1 : SndI T cl it1) (hc : SndC T cl cc) (he : Snd T cl el) : Snd T cl (.lc2 w w1 t it t1 it1 cc el) := Snd.mkT (fun {X M EX W} c e h m hgm => by
    obtain ⟨x, tg, iter, tg1, iter1, ifs1, scope, p, rfl, h1, h2, h3, h4, h5, h6, h7, h8, h9, h11, h12, h13, h14, h15, h16, h17⟩ := mat_lc2 h
    have hok : BlkOk X.N X.env.scope scope (ownOf M.N w) := by
      rw [c.sc, c.N]
      exact blkOk_by h1
    refine pe_imp (pe_lc2 (g := gD X.K EX t) (tt := tYes) (wi1 := tI .s X.K EX noW (semI T cl it1)) (g1 := gD X.K EX t1) (tt1 := tT X.K EX noW (semC T cl cc)) (te := tE .s X.K EX noW (sem T cl el).v) (c.calm h17) c.nd (hi.i c h5 .t hg) hok (vs1 := w1) (by rw [h2]; exact h7)
      (fun s H C cv fp => pg_D (c.blk h17) h9) (fun s H C cv fp => pts_nil) (fun s H C cv fp => hi1.i (c.blk h17) h12 .s (gdI_s.trans h11)) (fun s H C cv fp => pg_D (c.blk h17) h13) (fun s H C cv fp => hc.c (c.blk h17) h14) (fun s H C cv fp => he.v (c.blk h17) h16 .s h15) (folded_no h3) (fun env => folded_no h4)) ?_
    rw [h2]
    exact lc2_rd h6 h8)
  (fun {M e} h => by obtain ⟨x, tg, iter, tg1, iter1, ifs1, scope, p, rfl, _⟩ := mat_lc2 h; rfl) rfl
theorem sndL_lc2 {w w1 : List Nat} {t t1 : Tg} {it it1 : It} {cc : Op} {el : Ex} (hi : SndI T cl it) (hg : gdI .t it = true) (hi1 : SndI T cl it1) (hc : SndC T cl cc) (he : Snd T cl el) : SndL T cl (.lc2 w w1 t it t1 it1 cc el) where
  l := fun {X M EX W} c v i y px pp h m hgm hs hl hsw => by
    obtain ⟨x, tg, iter, tg1, iter1, ifs1, scope, p, rfl, h1, h2, h3, h4, h5, h6, h7, h8, h9, h11, h12, h13, h14, h15, h16, h17⟩ := mat_lc2 h
    have hok : BlkOk X.N X.env.scope scope (ownOf M.N w) := by
      rw [c.sc, c.N]
      exact blkOk_by h1
    refine ps_imp (ps_setLc2 (g := gD X.K EX t) (tt := tYes) (wi1 := tI .s X.K EX noW (semI T cl it1)) (g1 := gD X.K EX t1) (tt1 := tT X.K EX noW (semC T cl cc)) (te := tE .s X.K EX noW (sem T cl el).v) (c.calm h17) c.nd (c.slot hs) (by rw [c.sc]; exact lcl_ok hl) hsw (hi.i c h5 .t hg) hok (vs1 := w1) (by rw [h2]; exact h7)
      (fun s H C cv fp => pg_D (c.blk h17) h9) (fun s H C cv fp => pts_nil) (fun s H C cv fp => hi1.i (c.blk h17) h12 .s (gdI_s.trans h11)) (fun s H C cv fp => pg_D (c.blk h17) h13) (fun s H C cv fp => hc.c (c.blk h17) h14) (fun s H C cv fp => he.v (c.blk h17) h16 .s h15) (folded_no h3) (fun env => folded_no h4)) fun D0 σ H q => ?_
    rw [h2]
    exact lc2_rd h6 h8 σ H _ q
end
end Nb
end
section
set_option Elab.async false
set_option linter.all false
set_option maxRecDepth 100000
set_option maxHeartbeats 4000000
/-! NbZ: dict comprehensions, keys of both kinds -/
namespace Nb
open PySem PySem.Spec PyProof.Rows L2

/-- a new dict's object: keys tuples | ints and texts -/
def dN (bT : Bool) : HO := if bT = true then .dT [] else .dK []
theorem dN_ok {P : Program} {w : World} {H : Hp} {bT : Bool} (h : Heap) (hb : sysModules < h.objs.size) : ObjOk P w H (h.push { cls := .type "dict", data := .dict #[] }) h.objs.size (dN bT) := by
  cases bT
  · exact dk_empty h hb
  · exact dt_empty h hb
theorem d_put {X : Cx} {pins : List (Addr × Obj)} {σ : L2.St} {H H' : Hp} {s : Shared} {E : Value → Shared → Prop} {a : Addr} {y v : V} {u r : Value} {Q : Unit → Shared → Prop} (hu : X.A.units < cLine) (I : Inv X pins σ H s) (g : DPut H a y v H') (ry : RelV y u) (rv : RelV v r) (h : ∀ s', Inv X pins σ H' s' → Q () s') :
    wpAny (model X.prog X.w) X.A (dictSet a u r) Q E s := by
  rcases g with ⟨kvs, k, e, rfl, l, rfl⟩ | ⟨kvs, k, b, e, rfl, eb, l, rfl⟩
  · exact d_dictSet I e l ry rv h
  · cases (show u = Value.ref b from ry)
    obtain ⟨z, hd, xs, rel, dd⟩ := dt_of I.hok e
    have zx : xs.length ≤ sizeLine := Paired.length rel ▸ z
    have zk : (putK kvs k v).length ≤ sizeLine := by
      have := length_putK kvs k v
      omega
    refine wpAny_dictSet_heap (hsz := zx) hu (key_of I.hok eb) dd fun h2 d2 sb => h _ ?_
    obtain ⟨ob, es, ep, e1, e2, e3, e4, _, e5⟩ := d2
    refine d_write I (by rw [e]; exact True.intro) sb ⟨ob, e1⟩ ⟨zk, hd, _, (rel.put k eb rv).keeps fun c ys ec => ?_, ob, es, ep, e1, e2, e3, e4, e5⟩
    exact (upd_ne (ne_of ec e (fun z => nomatch z))).trans ec
section
variable {X : Cx}
/-- {k: v for target in iter if ..}: D the new dict -/
def tDg (bT : Bool) (wi : TI) (g : TG) (tt : TT) (tk tv : TE) (vs : List Nat) : TE := fun σ H Q => wi σ H fun J H1 => ∀ D, H1 D = none → ∃ W : Nat → Nat → Hp → Prop, (∃ m, W 0 m (upd H1 D (dN bT))) ∧ ∀ i m H, W i m H →
  ((J.stop i H ∧ Q (.ref D) H) ∨ (J.go i H ∧ ∃ Nx : Hp → Prop, (∀ H', Nx H' → ∃ m', m' < m ∧ W (i + 1) m' H') ∧ ∀ x H', J.yld i H x H' → g x (wipe σ vs) H' fun σ2 H2 => wipe σ2 vs = wipe σ vs ∧ tt σ2 H2 fun b H3 =>
    if b = true then tk σ2 H3 fun y H4 => tv σ2 H4 fun z H5 => ∃ H6, DPut H5 D y z H6 ∧ Nx H6 else Nx H3))
theorem dg_core {bT : Bool} {pins : List (Addr × Obj)} {s : Shared} {σ : L2.St} {H : Hp} {Q : VK} {kx vx tg iter : Expr} {ifs : List Expr} {scope : Scope} {own : List (PySem.Str × Nat)} {pos pos' : Pos} {wi : TI} {g : TG} {tt : TT} {tk tv : TE} {use : Option (Value → Sem Unit)} {Qf : Value → Shared → Prop}
    (hun : X.A.units < cLine) (hcalm : X.calm = true) (hnd : X.N.Nodup) (I : Inv X pins σ H s) (hit : PI X tg iter wi) (bok : BlkOk X.N X.env.scope scope own)
    (hgo : ∀ (s : Shared) (H : Hp) (C : Addr) (cl : List (PySem.Str × Addr)) (fps : List Addr), PG (X.blk s H scope (compEnvC scope cl C X.env) fps) tg g) (htt : ∀ (s : Shared) (H : Hp) (C : Addr) (cl : List (PySem.Str × Addr)) (fps : List Addr), PTs (X.blk s H scope (compEnvC scope cl C X.env) fps) ifs tt)
    (hky : ∀ (s : Shared) (H : Hp) (C : Addr) (cl : List (PySem.Str × Addr)) (fps : List Addr), PE (X.blk s H scope (compEnvC scope cl C X.env) fps) kx tk)
    (hvl : ∀ (s : Shared) (H : Hp) (C : Addr) (cl : List (PySem.Str × Addr)) (fps : List Addr), PE (X.blk s H scope (compEnvC scope cl C X.env) fps) vx tv) (hfo : ∀ x, foldedSetIterable iter X.env x = pure x)
    (h : tDg bT wi g tt tk tv (own.map (·.2)) σ H Q)
    (hend : ∀ D C s' m H', Inv X pins σ H' s' → Q (.ref D) H' → s'.heap.Ns C m → FpOk X pins H' C → compPost (model X.prog X.w) X.A X.xe use Qf (.ref D) C (.ok .next) s') :
    wpAny (model X.prog X.w) X.A (comprehension (.DictComp kx vx [⟨tg, iter, ifs, 0⟩] scope pos) scope X.env pos' newDict false (eval iter X.env) use) Qf X.xe s := by
  have hfr : ∀ y ∈ scope.names, y.2 = .free → ∃ c, X.env.cells.lookup y.1 = some c := fun y hy e => by
    rcases bok.free y hy e with k | k
    · exact I.ok.has _ (.inl k)
    · exact I.ok.has _ (.inr k)
  refine wpAny_comprehension_free (use := use) rfl hfo (closure_ok hfr) bok.kind (fun y hy e => by rw [bok.uniq y hy, e])
    (thn (hit.run pins s σ H _ I h) fun xval z1 hxx => thn hxx fun itval z2 k2 => ?_)
  obtain ⟨it, fps, tnt, J, G2, e, J2, Tw, tt2, fo2, q⟩ := k2
  subst e
  refine wpAny_newObj_type (newEnv_comp ?_)
  generalize eD : z2.heap.objs.size = D
  have nD : G2 D = none := J2.hok.fresh (Nat.le_of_eq eD)
  obtain ⟨Wf, ⟨mm0, wf0⟩, trn⟩ := q D nD
  -- the new list
  generalize ez3 : ({ z2 with heap := z2.heap.push { cls := .type "dict", data := .dict #[] } } : Shared) = z3
  have J3 : Inv X pins σ (upd G2 D (dN bT)) z3 := by
    rw [← ez3]
    refine J2.laid (t' := z2.toks) (fun b o e => Heap.get?_push_of_some _ e) (Nat.le_of_eq eD) ?_
    rw [← eD]
    exact dN_ok z2.heap J2.big
  have k3 : z3.heap = z2.heap.push { cls := .type "dict", data := .dict #[] } := by rw [← ez3]
  have lts : ∀ b ∈ fps, b < z2.heap.objs.size := fun b hb => by
    obtain ⟨o, e, _⟩ := Tw.obj _ _ tt2 b hb
    exact Heap.lt_size e
  have fo3 : ∀ b ∈ fps, FpOk X pins (upd G2 D (dN bT)) b ∧ b < z3.heap.objs.size := fun b hb => by
    have hlt := lts b hb
    refine ⟨⟨?_, (fo2 b hb).2⟩, by rw [k3, Heap.size_push]; exact Nat.lt_succ_of_lt hlt⟩
    rw [upd_ne (by rw [← eD]; exact Nat.ne_of_lt hlt)]
    exact (fo2 b hb).1
  have tt3 : tnt 0 z3.heap := Tw.keep _ _ _ tt2 fun b _ o e => by rw [k3]; exact Heap.get?_push_of_some _ e
  have J4 := block_start J3 bok hnd fo3
  have pgo := hgo z3 (upd G2 D (dN bT)) z3.heap.objs.size (cellsFrom (z3.heap.objs.size + 1) scope.names (cloFrom X.env.cells scope.names [])) fps
  have pto := htt z3 (upd G2 D (dN bT)) z3.heap.objs.size (cellsFrom (z3.heap.objs.size + 1) scope.names (cloFrom X.env.cells scope.names [])) fps
  have pky := hky z3 (upd G2 D (dN bT)) z3.heap.objs.size (cellsFrom (z3.heap.objs.size + 1) scope.names (cloFrom X.env.cells scope.names [])) fps
  have pvl := hvl z3 (upd G2 D (dN bT)) z3.heap.objs.size (cellsFrom (z3.heap.objs.size + 1) scope.names (cloFrom X.env.cells scope.names [])) fps
  show codeAny _ _ (.compStart (.DictComp kx vx [⟨tg, iter, ifs, 0⟩] scope pos) 0 (.ref it) (.ref D) (compEnvC scope (cellsFrom (z3.heap.objs.size + 1) scope.names (cloFrom X.env.cells scope.names [])) z3.heap.objs.size X.env)) (compPost (model X.prog X.w) X.A X.xe use Qf (.ref D) z3.heap.objs.size) { z3 with heap := pushCells (z3.heap.push { cls := .type "dict", data := .dict #[] }) scope.names }
  have noF : ∀ b ∈ fps, (upd G2 D (dN bT)) b = none := fun b hb => (fo3 b hb).1.1
  generalize ebe : compEnvC scope (cellsFrom (z3.heap.objs.size + 1) scope.names (cloFrom X.env.cells scope.names [])) z3.heap.objs.size X.env = be at J4 pgo pto pky pvl ⊢
  have locB : be.locals = z3.heap.objs.size := by subst ebe; rfl
  generalize eG3 : upd G2 D (dN bT) = G3 at J3 J4 pgo pto pky pvl wf0 noF fo3
  generalize ez4 : ({ z3 with heap := pushCells (z3.heap.push { cls := .type "dict", data := .dict #[] }) scope.names } : Shared) = z4 at J4 ⊢
  have tt4 : tnt 0 z4.heap := Tw.keep _ _ _ tt3 fun b _ o e => by rw [← ez4]; exact pushCells_keeps _ _ _ _ (Heap.get?_push_of_some _ e)
  have stay : ∀ {σ' : L2.St} {H' : Hp} {s' : Shared}, Inv (X.blk z3 G3 scope be fps) [] σ' H' s' → (∀ b ∈ fps, H' b = none) → ∀ b ∈ fps, FpOk (X.blk z3 G3 scope be fps) [] H' b := fun {σ' H' s'} I' hn b hb =>
    ⟨hn b hb, (I'.ok.exf b hb).1, I'.ok.exfs b hb, .inl hb, fun x c e => (I'.ok.exf b hb).2 x c e, fun p hp => absurd (show p ∈ ([] : List (Addr × Obj)) ++ [] from hp) (by simp)⟩
  have lup : codeAny (model X.prog X.w) X.A (.compLoop (.DictComp kx vx [⟨tg, iter, ifs, 0⟩] scope pos) 0 (.ref it) (.ref D) be) (compPost (model X.prog X.w) X.A X.xe use Qf (.ref D) z3.heap.objs.size) z4 := by
    refine compLoop_anyD (fun n s' => ∃ i H', Inv (X.blk z3 G3 scope be fps) [] (wipe σ (own.map (·.2))) H' s' ∧ tnt i s'.heap ∧ (∀ b ∈ fps, H' b = none) ∧ Wf i n H') ?_ mm0 ⟨0, G3, J4, tt4, noF, wf0⟩
    rintro n z5 ⟨i, G5, J5, tt5, no5, wf5⟩
    rcases trn i n G5 wf5 with ⟨stp0, qst⟩ | ⟨goo, Nx, eNx, stp⟩
    · have tdn := Tw.done (X.blk z3 G3 scope be fps) rfl rfl rfl hcalm i [] z5 _ G5 (fun _ _ => False) J5 (stay J5 no5) tt5 stp0
      refine thnF tdn fun r z6 ⟨hr, J6⟩ => ?_
      subst hr
      -- back in the def's context
      have J7 : Inv X pins σ G5 z6 := J3.call' (ch := fps) J6.os J6.base J6.hok J6.bare fun b hb => ⟨(fo3 b hb).1.2.2.2.1, (fo3 b hb).1.2.1, (fo3 b hb).1.2.2.2.2.1, (fo3 b hb).1.2.2.2.2.2⟩
      have nC : G5 z3.heap.objs.size = none := by
        have z : G5 be.locals = none := J6.free
        rw [locB] at z
        exact z
      obtain ⟨m, hn, _⟩ := J6.loc
      have hn : z6.heap.Ns be.locals m := hn
      rw [locB] at hn
      exact hend D z3.heap.objs.size z6 m G5 J7 qst hn (J3.fpOk (Nat.le_refl _) nC)
    · have tit := Tw.item (X.blk z3 G3 scope be fps) rfl rfl rfl hcalm i [] z5 _ G5 (fun _ _ => False) J5 (stay J5 no5) tt5 goo
      refine thnF tit fun r z6 ⟨u, hr, h6⟩ => ?_
      subst hr
      refine thnF h6 fun _ z7 ⟨x, G7, J7, rv7, yl7, tt7, no7⟩ => ?_
      have I7' := J7.pinned (stay J7 no7) (Tw.obj _ _ tt7)
      refine thnF (pgo.run _ z7 _ G7 x u _ I7' rv7 (stp x G7 yl7)) fun _ z8 ⟨τ8, G8, J8, ew8, qq8⟩ => ?_
      refine thnF (pto.run _ z8 τ8 G8 _ J8 qq8) fun b z9 ⟨G9, J9, qq9⟩ => ?_
      -- the turn's end
      have done : ∀ {s' : Shared} {H' : Hp}, Inv (X.blk z3 G3 scope be fps) ([] ++ pinsAt fps z7.heap) τ8 H' s' → Nx H' → ∃ m, m < n ∧ ∃ i H', Inv (X.blk z3 G3 scope be fps) [] (wipe σ (own.map (·.2))) H' s' ∧ tnt i s'.heap ∧ (∀ b ∈ fps, H' b = none) ∧ Wf i m H' := fun {s' H'} I' nxt => by
        obtain ⟨m', hmm, w'⟩ := eNx H' nxt
        have pin' : ∀ b ∈ fps, ∀ o, z7.heap.get? b = some o → s'.heap.get? b = some o ∧ H' b = none := fun b hb o e =>
          let z := I'.pin (b, o) (List.mem_append_right _ (List.mem_append_right _ (mem_pinsAt hb e)))
          ⟨z.1, z.2.1⟩
        have hll : (wipe σ (own.map (·.2))).length = τ8.length := by rw [← ew8, wipe_length]
        refine ⟨m', hmm, i + 1, H', (I'.unpinned (pins := [])).weak hll (fun j v e => ?_), Tw.keep _ _ _ tt7 fun b hb o e => (pin' b hb o e).1, fun b hb => ?_, w'⟩
        · rw [← ew8] at e
          exact (wipe_some e).1
        · obtain ⟨o, e, _⟩ := Tw.obj _ _ tt7 b hb
          exact (pin' b hb o e).2
      cases b with
      | false =>
        simp only [Bool.false_eq_true, if_false] at qq9 ⊢
        exact done J9 qq9
      | true =>
        simp only [if_true] at qq9 ⊢
        refine thnF (pky.run _ z9 τ8 G9 _ J9 qq9) fun z z10 ⟨yk, G10, J10, r10, q10⟩ => ?_
        refine thnF (pvl.run _ z10 τ8 G10 _ J10 q10) fun z2 z11 ⟨yv, G11, J11, r11, G12, dput, nxt⟩ => ?_
        exact d_put (X := X.blk z3 G3 scope be fps) hun J11 dput r10 r11 fun s12 I12 => done I12 nxt
  exact codeAny_compStart_dict lup (Tw.self X.A 0 _ _ _ tt4 lup)
/-- as a value -/
theorem pe_dg {bT : Bool} {kx vx tg iter : Expr} {ifs : List Expr} {scope : Scope} {own : List (PySem.Str × Nat)} {pos : Pos} {wi : TI} {g : TG} {tt : TT} {tk tv : TE} (hun : X.A.units < cLine) (hcalm : X.calm = true) (hnd : X.N.Nodup) (hit : PI X tg iter wi) (bok : BlkOk X.N X.env.scope scope own)
    (hgo : ∀ (s : Shared) (H : Hp) (C : Addr) (cl : List (PySem.Str × Addr)) (fps : List Addr), PG (X.blk s H scope (compEnvC scope cl C X.env) fps) tg g) (htt : ∀ (s : Shared) (H : Hp) (C : Addr) (cl : List (PySem.Str × Addr)) (fps : List Addr), PTs (X.blk s H scope (compEnvC scope cl C X.env) fps) ifs tt)
    (hky : ∀ (s : Shared) (H : Hp) (C : Addr) (cl : List (PySem.Str × Addr)) (fps : List Addr), PE (X.blk s H scope (compEnvC scope cl C X.env) fps) kx tk)
    (hvl : ∀ (s : Shared) (H : Hp) (C : Addr) (cl : List (PySem.Str × Addr)) (fps : List Addr), PE (X.blk s H scope (compEnvC scope cl C X.env) fps) vx tv) (hfo : ∀ x, foldedSetIterable iter X.env x = pure x := by intro _; rfl) :
    PE X (.DictComp kx vx [⟨tg, iter, ifs, 0⟩] scope pos) (tDg bT wi g tt tk tv (own.map (·.2))) := by
  refine ⟨fun pins s σ H Q I h => ?_⟩
  rw [arm_eval_DictComp]
  refine dg_core hun hcalm hnd I hit bok hgo htt hky hvl hfo h fun D C s' m H' I' q hn f => ⟨m, hn, fun h'' sb => ?_⟩
  obtain ⟨f0, f1, fo2, fo3, f4, f5⟩ := f
  exact ⟨.ref D, H', I'.turned (t' := s'.toks) (fun b o hb e => (sb.2 b hb).trans e) f0 f1 fo3 f4 f5, rfl, q⟩
theorem ps_setDg {bT : Bool} {i : Nat} {y : PySem.Str} {py : Pos} {kx vx tg iter : Expr} {ifs : List Expr} {scope : Scope} {own : List (PySem.Str × Nat)} {pos spos : Pos} {wi : TI} {g : TG} {tt : TT} {tk tv : TE} (hun : X.A.units < cLine) (hcalm : X.calm = true) (hnd : X.N.Nodup) (hy : X.N[i]? = some y) (hyl : X.env.scope.names.lookup y = some .local)
    (hsw : swapsWith (.DictComp kx vx [⟨tg, iter, ifs, 0⟩] scope pos) (some (.Name y py)) spos.line X.env = pure true) (hit : PI X tg iter wi) (bok : BlkOk X.N X.env.scope scope own)
    (hgo : ∀ (s : Shared) (H : Hp) (C : Addr) (cl : List (PySem.Str × Addr)) (fps : List Addr), PG (X.blk s H scope (compEnvC scope cl C X.env) fps) tg g) (htt : ∀ (s : Shared) (H : Hp) (C : Addr) (cl : List (PySem.Str × Addr)) (fps : List Addr), PTs (X.blk s H scope (compEnvC scope cl C X.env) fps) ifs tt)
    (hky : ∀ (s : Shared) (H : Hp) (C : Addr) (cl : List (PySem.Str × Addr)) (fps : List Addr), PE (X.blk s H scope (compEnvC scope cl C X.env) fps) kx tk)
    (hvl : ∀ (s : Shared) (H : Hp) (C : Addr) (cl : List (PySem.Str × Addr)) (fps : List Addr), PE (X.blk s H scope (compEnvC scope cl C X.env) fps) vx tv) (hfo : ∀ x, foldedSetIterable iter X.env x = pure x) :
    PS X (.Assign [.Name y py] (.DictComp kx vx [⟨tg, iter, ifs, 0⟩] scope pos) spos) (tAsg (tDg bT wi g tt tk tv (own.map (·.2))) (gName i)) := by
  refine ⟨fun pins s σ H D I h => ?_⟩
  rw [exec_Assign_Name_used _ _ _ _ hsw]
  refine wpAny_bind (wpAny_standAt (wpAny_bind ?_))
  show wpAny _ X.A (do let _ ← comprehension (.DictComp kx vx [⟨tg, iter, ifs, 0⟩] scope pos) scope X.env (firstIterPos [⟨tg, iter, ifs, 0⟩] pos) newDict false (eval iter X.env) (some (assign (.Name y py) X.env))) _ _ s
  have hq : tDg bT wi g tt tk tv (own.map (·.2)) σ H (fun x H1 => gName i x σ H1 D.nx) := h
  refine wpAny_bind (thn (dg_core (Qf := fun _ s' => SP X pins D .next s') hun hcalm hnd I hit bok hgo htt hky hvl hfo hq fun L C s' m H' I' q hn f => ?_) fun _ s' q => wpAny_pure (wpAny_pure q))
  show wpAny _ _ (assign (.Name y py) X.env (.ref L)) _ _ _
  refine wpAny_assign_Name (store_ok2 (v := V.ref L) I' hnd hy (.inl hyl) rfl (fun s2 I2 ⟨a, sb, ha⟩ => ?_) (.inr hyl))
  obtain ⟨f0, f1, f2, f3, f4, f5⟩ := f
  have hne : C ≠ a := by
    rcases ha with z | z
    · exact z.symm ▸ f1
    · exact fun e => f4 y a z e.symm
  exact ⟨m, hn.sameBut sb hne, fun h3 sb3 => ⟨_, H', I2.turned (t' := s2.toks) (fun b o hb e => (sb3.2 b hb).trans e) f0 f1 f3 f4 f5, q⟩⟩
end
end Nb
end
section
set_option Elab.async false
set_option linter.all false
set_option maxRecDepth 100000
set_option maxHeartbeats 4000000
/-! NbZa: dict comprehensions of the small language -/
namespace Nb
open PySem PySem.Spec PyProof.Rows L2

theorem dcParts_eq {e x y : Expr} {tg iter : Expr} {ifs : List Expr} {a : Int} {scope : Scope} (h : dcParts e = some (x, y, ⟨tg, iter, ifs, a⟩, scope)) : ∃ p, e = .DictComp x y [⟨tg, iter, ifs, 0⟩] scope p := by
  unfold dcParts at h
  split at h
  · split at h
    · rename_i h0
      cases h
      have h0 : a = 0 := h0
      subst h0
      exact ⟨_, rfl⟩
    · cases h
  · cases h
/-- what a match of a dict comprehension says -/
def DcM (M : Mc) (w : List Nat) (t : Tg) (it : It) (k v : Ex) (e : Expr) : Prop := ∃ x y tg iter scope p, e = .DictComp x y [⟨tg, iter, [], 0⟩] scope p ∧ blkC M.N M.sc scope (ownOf M.N w) = true ∧ (ownOf M.N w).map (·.2) = w ∧ notSet iter = true ∧
    matI M it iter tg = true ∧ tgIn w t = true ∧ matT (M.blk scope) t tg = true ∧ stg k = true ∧ mat (M.blk scope) k x = true ∧ stg v = true ∧ mat (M.blk scope) v y = true ∧ M.calm = true
theorem dcM_of {M : Mc} {e : Expr} {w : List Nat} {t : Tg} {it : It} {k v : Ex} (h : (match dcParts e with
      | some (x, y, ⟨tg, iter, ifs, _⟩, scope) => blkC M.N M.sc scope (ownOf M.N w) && decide ((ownOf M.N w).map (·.2) = w) && notSet iter && matI M it iter tg && tgIn w t &&
          matT (M.blk scope) t tg && ifs.isEmpty && stg k && mat (M.blk scope) k x && stg v && mat (M.blk scope) v y && M.calm
      | none => false) = true) : DcM M w t it k v e := by
  cases e1 : dcParts e with
  | none => rw [e1] at h; exact ff h
  | some q =>
    obtain ⟨x, y, ⟨tg, iter, ifs, a⟩, scope⟩ := q
    rw [e1] at h
    obtain ⟨p, rfl⟩ := dcParts_eq e1
    obtain ⟨a12, h12⟩ := b2 h
    obtain ⟨a11, h11⟩ := b2 a12
    obtain ⟨a10, h10⟩ := b2 a11
    obtain ⟨a9, h9⟩ := b2 a10
    obtain ⟨a8, h8⟩ := b2 a9
    obtain ⟨a7, h7⟩ := b2 a8
    obtain ⟨a6, h6⟩ := b2 a7
    obtain ⟨a5, h5⟩ := b2 a6
    obtain ⟨a4, h4⟩ := b2 a5
    obtain ⟨a3, h3⟩ := b2 a4
    obtain ⟨a2, h2⟩ := b2 a3
    cases ifs with
    | cons _ _ => cases h7
    | nil => exact ⟨_, _, _, _, _, _, rfl, a2, of_decide_eq_true h2, h3, h4, h5, h6, h8, h9, h10, h11, h12⟩
theorem mat_dcK {M : Mc} {e : Expr} {w : List Nat} {t : Tg} {it : It} {k v : Ex} (h : mat M (.dcK w t it k v) e = true) : DcM M w t it k v e := by
  unfold mat at h
  exact dcM_of h
theorem mat_dcT {M : Mc} {e : Expr} {w : List Nat} {t : Tg} {it : It} {k v : Ex} (h : mat M (.dcT w t it k v) e = true) : DcM M w t it k v e := by
  unfold mat at h
  exact dcM_of h
/-- the two kinds of keys -/
structure KeyK (κ : Type) [DecidableEq κ] where
  key : D → Option κ
  obj : List (κ × V) → HO
  dat : List κ → List D → D
  bT : Bool
  new : obj [] = dN bT
  own : ∀ {K : PySem.W.Frag} {F : Hp} {R : List Addr} {H : Hp} {a : Addr} {ks : List κ} {ds : List D} {vs : List V}, H a = some (obj (ks.zip vs)) → ks.length = ds.length → Rels K F R ds vs → OwnR K F R H a (dat ks ds)
  put : ∀ {K : PySem.W.Frag} {F : Hp} {R : List Addr} {H : Hp} {st : Sto} {a : Addr} {kvs : List (κ × V)} {d : D} {y z : V} {q : κ}, StOk K F R H st → H a = some (obj kvs) → Rel K F R d y → key d = some q → kvs.length < sizeLine → DPut H a y z (upd H a (obj (putK kvs q z)))
def kkK : KeyK Key where
  key := keyD
  obj := .dK
  dat := .dk
  bT := false
  new := rfl
  own := fun h l r => ⟨_, h, l, r⟩
  put := fun so e r k l => by rw [keyD_s r k]; exact DPut.k e l
def kkT : KeyK (List Key) where
  key := keysD
  obj := .dT
  dat := .dt
  bT := true
  new := rfl
  own := fun h l r => ⟨_, h, l, r⟩
  put := fun {K F R H st a kvs d y z q} so e r k l => by
    obtain ⟨b, rfl, hb⟩ := keysD_r so (H := H) (.inl r) k
    exact DPut.t e hb l
section
variable {κ : Type} [DecidableEq κ] {T : Tb} {cl : Cl} {X : Cx} {EX : EXT}
theorem dcLoop_cons {f : D → Sto → Res (κ × D)} {d : D} {ds : List D} {ks : List κ} {vs : List D} {st : Sto} {o : List κ × List D} {s2 : Sto} (h : dcLoop f (d :: ds) ks vs st = .ok o s2) :
    ∃ p st1, f d st = .ok p st1 ∧ dcLoop f ds (putKs ks p.1) (putVs ks vs p.1 p.2) st1 = .ok o s2 := by
  unfold dcLoop at h
  cases e1 : f d st with
  | bad => rw [e1] at h; cases h
  | exc _ _ _ => rw [e1] at h; cases h
  | ok p st1 => rw [e1] at h; exact ⟨p, st1, rfl, h⟩
theorem turnD_ok {key : D → Option κ} {w : List Nat} {t : Tg} {k v : Enw → Sto → Res D} {e : Enw} {d : D} {s : Sto} {p : κ × D} {s2 : Sto} (h : turnD key w t k v e d s = .ok p s2) :
    ∃ e1 x s1 y, bindT t d (e.wipe w) = some e1 ∧ k e1 s = .ok x s1 ∧ v e1 s1 = .ok y s2 ∧ key x = some p.1 ∧ p.2 = y := by
  unfold turnD at h
  cases e0 : bindT t d (e.wipe w) with
  | none => rw [e0] at h; cases h
  | some e1 =>
    rw [e0] at h
    simp only at h
    cases e2 : k e1 s with
    | bad => rw [e2] at h; cases h
    | exc _ _ _ => rw [e2] at h; cases h
    | ok x s1 =>
      rw [e2] at h
      replace h : ((v e1 s1).bind fun y s'' => match key x with
        | some q => .ok (q, y) s''
        | none => .bad) = .ok p s2 := h
      cases e3 : v e1 s1 with
      | bad => rw [e3] at h; cases h
      | exc _ _ _ => rw [e3] at h; cases h
      | ok y s3 =>
        rw [e3] at h
        replace h : (match key x with
          | some q => Res.ok (q, y) s3
          | none => .bad) = .ok p s2 := h
        cases e4 : key x with
        | none => rw [e4] at h; cases h
        | some q =>
          rw [e4] at h
          cases h
          exact ⟨e1, x, s1, y, rfl, e2, e3, e4, rfl⟩
theorem putKs_len (ks : List κ) (q : κ) : (putKs ks q).length ≤ ks.length + 1 := by
  unfold putKs
  split
  · omega
  · simp
structure LdSt (Kk : KeyK κ) (K : PySem.W.Frag) (F1 : Hp) (R1 : List Addr) (H1 : Hp) (f : D → Sto → Res (κ × D)) (ds : List D) (o : List κ × List D) (s2 : Sto) (Dl : Addr) (i : Nat) (H : Hp) : Prop where
  h : ∃ F R st ks es vs, Grow F1 R1 H1 F R H ∧ StOk K F R H st ∧ F Dl = none ∧ Dl ∉ R ∧ H Dl = some (Kk.obj (ks.zip vs)) ∧ ks.length = es.length ∧ Rels K F R es vs ∧ ks.length ≤ i ∧ i ≤ ds.length ∧ dcLoop f (ds.drop i) ks es st = .ok o s2
theorem dc_walk (Kk : KeyK κ) {w : List Nat} {t : Tg} {ky vl : Ex} {J : L2.It} {ds : List D} {o : List κ × List D} {s1 s2 : Sto} {m : Md} {Q : VK} {σ : L2.St} {env : Enw} {F1 : Hp} {R1 : List Addr} {H1 : Hp}
    (so1 : StOk X.K F1 R1 H1 s1) (eo1 : EnvOk X.K EX F1 R1 H1 env σ) (wk : Walk X.K (reach .t F1 R1 H1) J ds) (hbig : ds.length ≤ big) (hw : tgIn w t = true)
    (e1 : dcLoop (turnD Kk.key w t (sem T cl ky).v (sem T cl vl).v env) ds [] [] s1 = .ok o s2) (k : Fin m X.K F1 R1 H1 s2 (Kk.dat o.1 o.2) Q) : ∀ Dl, H1 Dl = none → ∃ Wf : Nat → Nat → Hp → Prop, (∃ m, Wf 0 m (upd H1 Dl (dN Kk.bT))) ∧ ∀ i m H, Wf i m H →
      ((J.stop i H ∧ Q (.ref Dl) H) ∨ (J.go i H ∧ ∃ Nx : Hp → Prop, (∀ H', Nx H' → ∃ m', m' < m ∧ Wf (i + 1) m' H') ∧ ∀ x H', J.yld i H x H' → gD X.K EX t x (wipe σ w) H' fun σ2 H2 => wipe σ2 w = wipe σ w ∧ tYes σ2 H2 fun b H3 =>
        if b = true then tE .s X.K EX noW (sem T cl ky).v σ2 H3 fun y H4 => tE .s X.K EX noW (sem T cl vl).v σ2 H4 fun z H5 => ∃ H6, DPut H5 Dl y z H6 ∧ Nx H6 else Nx H3)) := fun Dl hD => by
  let f := turnD Kk.key w t (sem T cl ky).v (sem T cl vl).v env
  refine ⟨fun i m H => m = ds.length - i ∧ LdSt Kk X.K F1 R1 H1 f ds o s2 Dl i H, ⟨ds.length, by simp, ?_⟩, ?_⟩
  · have hr : Dl ∉ R1 := fun h => by
      obtain ⟨o, ho⟩ := so1.there h
      rw [hD] at ho; cases ho
    exact ⟨F1, R1, s1, [], [], [], .newH hD, so1.newH hD, so1.same.free hD, hr, by rw [upd_same, ← Kk.new]; rfl, rfl, Rels.nil, Nat.le_refl _, Nat.zero_le _, by simpa using e1⟩
  rintro i mm H ⟨rfl, F, R, st, ks, es, vs, g, so, hf, hr, hv, hke, rr, hki, hi, hl⟩
  by_cases hlt : i < ds.length
  · right
    have hd : ds[i]? = some ds[i] := List.getElem?_eq_getElem hlt
    obtain ⟨w1, w2⟩ := wk.go F R H st i _ g so hd
    refine ⟨w1, fun H' => LdSt Kk X.K F1 R1 H1 f ds o s2 Dl (i + 1) H', fun H' h => ⟨ds.length - (i + 1), by omega, rfl, h⟩, fun x H' hy => ?_⟩
    obtain ⟨F', g', so', rx⟩ := w2 x H' hy
    rw [List.drop_eq_getElem_cons hlt] at hl
    obtain ⟨p, st1, l1, l2⟩ := dcLoop_cons hl
    obtain ⟨en, x0, s3, y0, t1, t2, t3, t4, t5⟩ := turnD_ok l1
    have gg := g.trans g'
    have hv' : H' Dl = some (Kk.obj (ks.zip vs)) := g'.keep Dl _ hv hr
    obtain ⟨hr', hf'⟩ := g'.offR hv hr hf
    have eo' : EnvOk X.K EX F' R H' (env.wipe w) (wipe σ w) := (eo1.grow gg).wipe w
    refine ⟨F', R, st, _, ds[i], en, so', eo', rx, t1, fun σ' eo2 hw2 _ => ⟨by rw [hw2 w hw]; exact wipe_wipe, ?_⟩⟩
    unfold tYes
    simp only [if_true]
    refine ⟨F', R, en, st, so', eo2, ?_⟩
    rw [t2]
    intro F2 R2 H2 g2 so2
    refine ⟨trivial, fun y ry => ⟨F2, R2, en, s3, so2, eo2.grow g2, ?_⟩⟩
    rw [t3]
    intro F3 R3 H3 g3 so3
    refine ⟨trivial, fun z rz => ?_⟩
    have hv2 : H2 Dl = some (Kk.obj (ks.zip vs)) := g2.keep Dl _ hv' hr'
    obtain ⟨hr2, hf2⟩ := g2.offR hv' hr' hf'
    have hv3 : H3 Dl = some (Kk.obj (ks.zip vs)) := g3.keep Dl _ hv2 hr2
    obtain ⟨hr3, hf3⟩ := g3.offR hv2 hr2 hf2
    have r3 : Rels X.K F3 R3 es vs := ((rr.mono g'.sameF g'.pre).mono g2.sameF g2.pre).mono g3.sameF g3.pre
    have ry3 : Rel X.K F3 R3 x0 y := Rel.mono g3.sameF g3.pre ry
    have rz3 : Rel X.K F3 R3 p.2 z := by rw [t5]; exact rz
    obtain ⟨ws, p1, p2, p3⟩ := put_zip p.1 hke r3 rz3
    have hlen : (ks.zip vs).length < sizeLine := by
      rw [len_zip hke r3, ← big_line]
      omega
    have dp := Kk.put so3 hv3 ry3 t4 hlen (z := z)
    rw [p1] at dp
    refine ⟨_, dp, F3, R3, st1, putKs ks p.1, putVs ks es p.1 p.2, ws, ((gg.trans g2).trans g3).mut hD, so3.mut hf3 hr3, hf3, hr3, upd_same, p2, p3, ?_, hlt, l2⟩
    have := putKs_len ks p.1
    omega
  · left
    have e : i = ds.length := by omega
    subst e
    refine ⟨wk.stop F R H st g so, ?_⟩
    rw [List.drop_length] at hl
    cases hl
    exact k.done g so hD hf hr (Kk.own hv hke rr)
theorem dc_rd (Kk : KeyK κ) {X : Cx} {EX : EXT} {W : WX} {w : List Nat} {t : Tg} {it : It} {ky vl : Ex} {m : Md} (h5 : tgIn w t = true) {se : Enw → Sto → Res D}
    (hse : ∀ e st, se e st = ((semI T cl it e st).bind fun ds s1 => ((dcLoop (turnD Kk.key w t (sem T cl ky).v (sem T cl vl).v e) ds [] [] s1).nox).bind fun xs s2 => .ok (Kk.dat xs.1 xs.2) s2)) : ∀ σ H Q, tE m X.K EX W se σ H Q →
    tDg Kk.bT (tI .t X.K EX W (semI T cl it)) (gD X.K EX t) tYes (tE .s X.K EX noW (sem T cl ky).v) (tE .s X.K EX noW (sem T cl vl).v) w σ H Q := fun σ H Q ⟨F, R, env, st, so, eo, q⟩ => by
  rw [hse] at q
  refine ⟨F, R, env, st, so, eo, q.bind.eqn.imp fun ds s1 F1 R1 H1 g1 so1 q1 J wk => ?_⟩
  obtain ⟨q0, q1⟩ := q1
  have q2 := q1.bind
  cases e1 : (dcLoop (turnD Kk.key w t (sem T cl ky).v (sem T cl vl).v env) ds [] [] s1).nox with
  | bad => rw [e1] at q2; exact q2.elim
  | exc _ _ _ =>
    cases e2 : dcLoop (turnD Kk.key w t (sem T cl ky).v (sem T cl vl).v env) ds [] [] s1 <;> rw [e2] at e1 <;> cases e1
  | ok xs s2 =>
    rw [e1] at q2
    have e2 := nox_ok e1
    have k : Fin m X.K F1 R1 H1 s2 (Kk.dat xs.1 xs.2) Q := fun F' R' H' v g so' r => ((After.here (q2 F' R' H' g so') so')).2 v (r.back g1.back)
    exact dc_walk Kk so1 (eo.grow g1) wk (semI_len q0) h5 e2 k
theorem pe_dcD (Kk : KeyK κ) {X : Cx} {M : Mc} {EX : EXT} {W : WX} (c : Ctx T cl X M EX W) {e : Expr} {w : List Nat} {t : Tg} {it : It} {ky vl : Ex} {m : Md} {se : Enw → Sto → Res D} (hi : SndI T cl it) (hg : gdI .t it = true) (hk : Snd T cl ky) (hv : Snd T cl vl) (h : DcM M w t it ky vl e)
    (hse : ∀ e st, se e st = ((semI T cl it e st).bind fun ds s1 => ((dcLoop (turnD Kk.key w t (sem T cl ky).v (sem T cl vl).v e) ds [] [] s1).nox).bind fun xs s2 => .ok (Kk.dat xs.1 xs.2) s2)) : PE X e (tE m X.K EX W se) := by
  obtain ⟨x, y, tg, iter, scope, p, rfl, h1, h2, h3, h4, h5, h6, h7, h8, h9, h10, h11⟩ := h
  have hok : BlkOk X.N X.env.scope scope (ownOf M.N w) := by
    rw [c.sc, c.N]
    exact blkOk_by h1
  have hu := c.units
  refine pe_imp (pe_dg (bT := Kk.bT) (g := gD X.K EX t) (tt := tYes) (tk := tE .s X.K EX noW (sem T cl ky).v) (tv := tE .s X.K EX noW (sem T cl vl).v) (by omega) (c.calm h11) c.nd (hi.i c h4 .t hg) hok (fun s H C cv fp => pg_D (c.blk h11) h6) (fun s H C cv fp => pts_nil) (fun s H C cv fp => hk.v (c.blk h11) h8 .s h7) (fun s H C cv fp => hv.v (c.blk h11) h10 .s h9) (folded_no h3)) ?_
  rw [h2]
  exact dc_rd Kk h5 hse
theorem ps_dcD (Kk : KeyK κ) {X : Cx} {M : Mc} {EX : EXT} {W : WX} (c : Ctx T cl X M EX W) {e : Expr} {w : List Nat} {t : Tg} {it : It} {ky vl : Ex} {m : Md} {se : Enw → Sto → Res D} {i : Nat} {y : Str} {px pp : Pos} (hi : SndI T cl it) (hg : gdI .t it = true) (hk : Snd T cl ky) (hv : Snd T cl vl) (h : DcM M w t it ky vl e)
    (hs : slotB M.N i y = true) (hl : lclB M.sc y = true) (hsw : swapsWith e (some (.Name y px)) pp.line X.env = pure true)
    (hse : ∀ e st, se e st = ((semI T cl it e st).bind fun ds s1 => ((dcLoop (turnD Kk.key w t (sem T cl ky).v (sem T cl vl).v e) ds [] [] s1).nox).bind fun xs s2 => .ok (Kk.dat xs.1 xs.2) s2)) : PS X (.Assign [.Name y px] e pp) (tAsg (tE m X.K EX W se) (gName i)) := by
  obtain ⟨x, z, tg, iter, scope, p, rfl, h1, h2, h3, h4, h5, h6, h7, h8, h9, h10, h11⟩ := h
  have hok : BlkOk X.N X.env.scope scope (ownOf M.N w) := by
    rw [c.sc, c.N]
    exact blkOk_by h1
  have hu := c.units
  refine ps_imp (ps_setDg (bT := Kk.bT) (g := gD X.K EX t) (tt := tYes) (tk := tE .s X.K EX noW (sem T cl ky).v) (tv := tE .s X.K EX noW (sem T cl vl).v) (by omega) (c.calm h11) c.nd (c.slot hs) (by rw [c.sc]; exact lcl_ok hl) hsw (hi.i c h4 .t hg) hok (fun s H C cv fp => pg_D (c.blk h11) h6) (fun s H C cv fp => pts_nil) (fun s H C cv fp => hk.v (c.blk h11) h8 .s h7) (fun s H C cv fp => hv.v (c.blk h11) h10 .s h9) (folded_no h3)) fun D0 σ H q => ?_
  rw [h2]
  exact dc_rd Kk h5 hse σ H _ q
theorem snd_dcK {w : List Nat} {t : Tg} {it : It} {ky vl : Ex} (hi : SndI T cl it) (hg : gdI .t it = true) (hk : Snd T cl ky) (hv : Snd T cl vl) : Snd T cl (.dcK w t it ky vl) :=
  Snd.mkT (fun {X M EX W} c e h m hgm => pe_dcD kkK c hi hg hk hv (mat_dcK h) fun _ _ => rfl) (fun {M e} h => by obtain ⟨x, y, tg, iter, scope, p, rfl, _⟩ := mat_dcK h; rfl) rfl
theorem snd_dcT {w : List Nat} {t : Tg} {it : It} {ky vl : Ex} (hi : SndI T cl it) (hg : gdI .t it = true) (hk : Snd T cl ky) (hv : Snd T cl vl) : Snd T cl (.dcT w t it ky vl) :=
  Snd.mkT (fun {X M EX W} c e h m hgm => pe_dcD kkT c hi hg hk hv (mat_dcT h) fun _ _ => rfl) (fun {M e} h => by obtain ⟨x, y, tg, iter, scope, p, rfl, _⟩ := mat_dcT h; rfl) rfl
theorem sndL_dcK {w : List Nat} {t : Tg} {it : It} {ky vl : Ex} (hi : SndI T cl it) (hg : gdI .t it = true) (hk : Snd T cl ky) (hv : Snd T cl vl) : SndL T cl (.dcK w t it ky vl) where
  l := fun {X M EX W} c v i y px pp h m hgm hs hl hsw => ps_dcD kkK c hi hg hk hv (mat_dcK h) hs hl hsw fun _ _ => rfl
theorem sndL_dcT {w : List Nat} {t : Tg} {it : It} {ky vl : Ex} (hi : SndI T cl it) (hg : gdI .t it = true) (hk : Snd T cl ky) (hv : Snd T cl vl) : SndL T cl (.dcT w t it ky vl) where
  l := fun {X M EX W} c v i y px pp h m hgm hs hl hsw => ps_dcD kkT c hi hg hk hv (mat_dcT h) hs hl hsw fun _ _ => rfl
theorem snd_dE {t : Bool} : Snd T cl (.dE t) := Snd.mkT (fun {X M EX W} c e h m hg => by
    obtain ⟨p, rfl⟩ := mat_dE h
    cases t
    · exact pe_imp pe_dnewK fun σ H Q ⟨F, R, env, st, so, eo, q⟩ => fun p hp => (Fin.of (W := W) (σ := σ) so (fun _ h => h) q).2.own so hp ⟨[], upd_same, rfl, by unfold Rels; rfl⟩
    · exact pe_imp pe_dnewT fun σ H Q ⟨F, R, env, st, so, eo, q⟩ => fun p hp => (Fin.of (W := W) (σ := σ) so (fun _ h => h) q).2.own so hp ⟨[], upd_same, rfl, by unfold Rels; rfl⟩)
  (fun {M e} h => by obtain ⟨p, rfl⟩ := mat_dE h; rfl) rfl
end
end Nb
end
section
set_option Elab.async false
set_option linter.all false
set_option maxRecDepth 100000
set_option maxHeartbeats 4000000
/-! NbZb: set comprehensions of tuples -/
namespace Nb
open PySem PySem.Spec PyProof.Rows L2

section
variable {P : Program} {w : World} {A : Around} {E : Value → Shared → Prop} {s : Shared} {a : Addr} {L : List (Addr × List Int)} {es : Array (Int × Value)} {ep : Nat} {t : SetTable}
/-- set.add of a tuple of ints -/
theorem call_addT (R : SetTR P w s.heap a L es ep t) {x : Addr} {k : List Int} (hx : IsT P w s.heap k x) (hu : A.units + 64 < cLine) (hfew : L.length + 1 < 64) {Q : Value → Shared → Prop}
    (hQ : ∀ h' L' es' ep' t' tk, Heap.SameBut a s.heap h' → SetTR P w h' a L' es' ep' t' → (k ∈ L.map (·.2) → L' = L) → (k ∉ L.map (·.2) → L'.Perm ((x, k) :: L)) → Q .none { s with heap := h', toks := tk }) :
    wpAny (model P w) A (call (.builtin "set.add") [.ref a, .ref x]) Q E s := by
  obtain ⟨o, ho, hex, hd⟩ := R.ob
  refine wpAny_call_entry F.slot_set_add ⟨o, ho, hex.1⟩ F.entry_set_add ?_ (F.args_set_add_2 _ _)
  unfold Builtin.«set.add» Builtin.Frozenset.oneOther
  simp only [List.isEmpty_nil, bind_assoc]
  unfold Builtin.Frozenset.addrOf setAdd
  refine wpAny_bind (wpAny_pure ?_)
  try dsimp only
  refine wpAny_bind (wpAny_pure ?_)
  try dsimp only
  refine wpAny_bind (wpAny_holding ?_)
  refine wpAny_bind (wpAny_pyHash_tuple (by first | exact Nat.lt_of_le_of_lt (Nat.le_add_right _ 64) hu | (show A.units + 1 < cLine; omega)) hx ?_)
  refine add_at (s := { s with toks := s.toks + (k.length + 1) }) R hx (by first | exact Nat.lt_of_le_of_lt (Nat.le_add_right _ 64) hu | (show A.units + 1 < cLine; omega)) hfew fun b h' L' es' ep' t' sb R' c1 c2 => ?_
  show wpAny _ _ (ret Value.none) _ _ _
  exact wpAny_pure ⟨_, rfl, hQ h' L' es' ep' t' _ sb R' c1 c2⟩
end
section
variable {X : Cx}
theorem addT_ok {pins : List (Addr × Obj)} {σ : L2.St} {H : Hp} {s : Shared} {E : Value → Shared → Prop} {D x : Addr} {L : List (Addr × List Int)} {k : List Int} {Q : Value → Shared → Prop} (hu : X.A.units + 64 < cLine) (I : Inv X pins σ H s) (hD : H D = some (SetTO X.prog X.w D L))
    (hx : SqT X.K H x (k.map V.int)) (hk : ∀ p ∈ L, SqT X.K H p.1 (p.2.map V.int)) (hf : L.length + 1 < 64)
    (h : ∀ L', (k ∈ L.map (·.2) → L' = L) → (k ∉ L.map (·.2) → L'.Perm ((x, k) :: L)) → ∀ s', Inv X pins σ (upd H D (SetTO X.prog X.w D L')) s' → Q .none s') : wpAny (model X.prog X.w) X.A (call (.builtin "set.add") [.ref D, .ref x]) Q E s := by
  have R0 : SetT0 X.prog X.w s.heap D L := (I.hok D _ hD).1
  obtain ⟨es, ep, t, R⟩ := R0.full fun p hp => I.isT (hk p hp)
  refine call_addT R (I.isT hx) hu hf fun h' L' es' ep' t' tk sb R' c1 c2 => ?_
  obtain ⟨o, ho, _⟩ := R'.ob
  exact h L' c1 c2 _ (I.write (e := D) (t' := tk) (by rw [hD]; trivial) (.inl rfl) (fun b u hb hu => (sb.2 b hb).trans hu) ⟨o, ho⟩ (setTO_new R'.t0))
/-- {elt for target in iter if ..}, elt a tuple of ints: D the new set -/
def tSs (K : PySem.W.Frag) (P : Program) (w : World) (wi : TI) (g : TG) (tt : TT) (te : TE) (vs : List Nat) : TE := fun σ H Q => wi σ H fun J H1 => ∀ D, H1 D = none → ∃ W : Nat → Nat → Hp → Prop, (∃ m, W 0 m (upd H1 D (SetTO P w D []))) ∧ ∀ i m H, W i m H →
  ((J.stop i H ∧ Q (.ref D) H) ∨ (J.go i H ∧ ∃ Nx : Hp → Prop, (∀ H', Nx H' → ∃ m', m' < m ∧ W (i + 1) m' H') ∧ ∀ x H', J.yld i H x H' → g x (wipe σ vs) H' fun σ2 H2 => wipe σ2 vs = wipe σ vs ∧ tt σ2 H2 fun b H3 =>
    if b = true then te σ2 H3 fun y H4 => ∃ (b : Addr) (L : List (Addr × List Int)) (k : List Int), y = .ref b ∧ H4 D = some (SetTO P w D L) ∧ SqT K H4 b (k.map V.int) ∧ (∀ p ∈ L, SqT K H4 p.1 (p.2.map V.int)) ∧ L.length + 1 < 64 ∧
      ∀ L' : List (Addr × List Int), (k ∈ L.map (·.2) → L' = L) → (k ∉ L.map (·.2) → L'.Perm ((b, k) :: L)) → Nx (upd H4 D (SetTO P w D L')) else Nx H3))
theorem ssc_core {pins : List (Addr × Obj)} {s : Shared} {σ : L2.St} {H : Hp} {Q : VK} {elt tg iter : Expr} {ifs : List Expr} {scope : Scope} {own : List (PySem.Str × Nat)} {pos pos' : Pos} {wi : TI} {g : TG} {tt : TT} {te : TE} {use : Option (Value → Sem Unit)} {Qf : Value → Shared → Prop}
    (hun : X.A.units + 64 < cLine) (hcalm : X.calm = true) (hnd : X.N.Nodup) (I : Inv X pins σ H s) (hit : PI X tg iter wi) (bok : BlkOk X.N X.env.scope scope own)
    (hgo : ∀ (s : Shared) (H : Hp) (C : Addr) (cl : List (PySem.Str × Addr)) (fps : List Addr), PG (X.blk s H scope (compEnvC scope cl C X.env) fps) tg g) (htt : ∀ (s : Shared) (H : Hp) (C : Addr) (cl : List (PySem.Str × Addr)) (fps : List Addr), PTs (X.blk s H scope (compEnvC scope cl C X.env) fps) ifs tt)
    (hvl : ∀ (s : Shared) (H : Hp) (C : Addr) (cl : List (PySem.Str × Addr)) (fps : List Addr), PE (X.blk s H scope (compEnvC scope cl C X.env) fps) elt te) (hfo : ∀ x, foldedSetIterable iter X.env x = pure x)
    (h : tSs X.K X.prog X.w wi g tt te (own.map (·.2)) σ H Q)
    (hend : ∀ D C s' m H', Inv X pins σ H' s' → Q (.ref D) H' → s'.heap.Ns C m → FpOk X pins H' C → compPost (model X.prog X.w) X.A X.xe use Qf (.ref D) C (.ok .next) s') :
    wpAny (model X.prog X.w) X.A (comprehension (.SetComp elt [⟨tg, iter, ifs, 0⟩] scope pos) scope X.env pos' (newSet (.type "set")) false (eval iter X.env) use) Qf X.xe s := by
  have hfr : ∀ y ∈ scope.names, y.2 = .free → ∃ c, X.env.cells.lookup y.1 = some c := fun y hy e => by
    rcases bok.free y hy e with k | k
    · exact I.ok.has _ (.inl k)
    · exact I.ok.has _ (.inr k)
  refine wpAny_comprehension_free (use := use) rfl hfo (closure_ok hfr) bok.kind (fun y hy e => by rw [bok.uniq y hy, e])
    (thn (hit.run pins s σ H _ I h) fun xval z1 hxx => thn hxx fun itval z2 k2 => ?_)
  obtain ⟨it, fps, tnt, J, G2, e, J2, Tw, tt2, fo2, q⟩ := k2
  subst e
  refine PpSet.newSet_ok (newEnv_comp ?_)
  generalize eD : z2.heap.objs.size = D
  have nD : G2 D = none := J2.hok.fresh (Nat.le_of_eq eD)
  obtain ⟨Wf, ⟨mm0, wf0⟩, trn⟩ := q D nD
  -- the new list
  generalize ez3 : ({ z2 with heap := z2.heap.push { cls := .type "set", dict := none, data := .set #[] 0 (.fresh 0 0 (!X.w.params.followText "set-order")) } } : Shared) = z3
  have J3 : Inv X pins σ (upd G2 D (SetTO X.prog X.w D [])) z3 := by
    rw [← ez3]
    refine J2.laid (t' := z2.toks) (fun b o e => Heap.get?_push_of_some _ e) (Nat.le_of_eq eD) ?_
    rw [← eD]
    exact setTO_new (setTR_fresh (Heap.get?_push_size _ rfl)).t0
  have k3 : z3.heap = z2.heap.push { cls := .type "set", dict := none, data := .set #[] 0 (.fresh 0 0 (!X.w.params.followText "set-order")) } := by rw [← ez3]
  have lts : ∀ b ∈ fps, b < z2.heap.objs.size := fun b hb => by
    obtain ⟨o, e, _⟩ := Tw.obj _ _ tt2 b hb
    exact Heap.lt_size e
  have fo3 : ∀ b ∈ fps, FpOk X pins (upd G2 D (SetTO X.prog X.w D [])) b ∧ b < z3.heap.objs.size := fun b hb => by
    have hlt := lts b hb
    refine ⟨⟨?_, (fo2 b hb).2⟩, by rw [k3, Heap.size_push]; exact Nat.lt_succ_of_lt hlt⟩
    rw [upd_ne (by rw [← eD]; exact Nat.ne_of_lt hlt)]
    exact (fo2 b hb).1
  have tt3 : tnt 0 z3.heap := Tw.keep _ _ _ tt2 fun b _ o e => by rw [k3]; exact Heap.get?_push_of_some _ e
  have J4 := block_start J3 bok hnd fo3
  have pgo := hgo z3 (upd G2 D (SetTO X.prog X.w D [])) z3.heap.objs.size (cellsFrom (z3.heap.objs.size + 1) scope.names (cloFrom X.env.cells scope.names [])) fps
  have pto := htt z3 (upd G2 D (SetTO X.prog X.w D [])) z3.heap.objs.size (cellsFrom (z3.heap.objs.size + 1) scope.names (cloFrom X.env.cells scope.names [])) fps
  have pvl := hvl z3 (upd G2 D (SetTO X.prog X.w D [])) z3.heap.objs.size (cellsFrom (z3.heap.objs.size + 1) scope.names (cloFrom X.env.cells scope.names [])) fps
  show codeAny _ _ (.compStart (.SetComp elt [⟨tg, iter, ifs, 0⟩] scope pos) 0 (.ref it) (.ref D) (compEnvC scope (cellsFrom (z3.heap.objs.size + 1) scope.names (cloFrom X.env.cells scope.names [])) z3.heap.objs.size X.env)) (compPost (model X.prog X.w) X.A X.xe use Qf (.ref D) z3.heap.objs.size) { z3 with heap := pushCells (z3.heap.push { cls := .type "dict", data := .dict #[] }) scope.names }
  have noF : ∀ b ∈ fps, (upd G2 D (SetTO X.prog X.w D [])) b = none := fun b hb => (fo3 b hb).1.1
  generalize ebe : compEnvC scope (cellsFrom (z3.heap.objs.size + 1) scope.names (cloFrom X.env.cells scope.names [])) z3.heap.objs.size X.env = be at J4 pgo pto pvl ⊢
  have locB : be.locals = z3.heap.objs.size := by subst ebe; rfl
  generalize eG3 : upd G2 D (SetTO X.prog X.w D []) = G3 at J3 J4 pgo pto pvl wf0 noF fo3
  generalize ez4 : ({ z3 with heap := pushCells (z3.heap.push { cls := .type "dict", data := .dict #[] }) scope.names } : Shared) = z4 at J4 ⊢
  have tt4 : tnt 0 z4.heap := Tw.keep _ _ _ tt3 fun b _ o e => by rw [← ez4]; exact pushCells_keeps _ _ _ _ (Heap.get?_push_of_some _ e)
  have stay : ∀ {σ' : L2.St} {H' : Hp} {s' : Shared}, Inv (X.blk z3 G3 scope be fps) [] σ' H' s' → (∀ b ∈ fps, H' b = none) → ∀ b ∈ fps, FpOk (X.blk z3 G3 scope be fps) [] H' b := fun {σ' H' s'} I' hn b hb =>
    ⟨hn b hb, (I'.ok.exf b hb).1, I'.ok.exfs b hb, .inl hb, fun x c e => (I'.ok.exf b hb).2 x c e, fun p hp => absurd (show p ∈ ([] : List (Addr × Obj)) ++ [] from hp) (by simp)⟩
  have lup : codeAny (model X.prog X.w) X.A (.compLoop (.SetComp elt [⟨tg, iter, ifs, 0⟩] scope pos) 0 (.ref it) (.ref D) be) (compPost (model X.prog X.w) X.A X.xe use Qf (.ref D) z3.heap.objs.size) z4 := by
    refine PpSet.compLoopS_any (fun n s' => ∃ i H', Inv (X.blk z3 G3 scope be fps) [] (wipe σ (own.map (·.2))) H' s' ∧ tnt i s'.heap ∧ (∀ b ∈ fps, H' b = none) ∧ Wf i n H') ?_ mm0 ⟨0, G3, J4, tt4, noF, wf0⟩
    rintro n z5 ⟨i, G5, J5, tt5, no5, wf5⟩
    rcases trn i n G5 wf5 with ⟨stp0, qst⟩ | ⟨goo, Nx, eNx, stp⟩
    · have tdn := Tw.done (X.blk z3 G3 scope be fps) rfl rfl rfl hcalm i [] z5 _ G5 (fun _ _ => False) J5 (stay J5 no5) tt5 stp0
      refine thnF tdn fun r z6 ⟨hr, J6⟩ => ?_
      subst hr
      -- back in the def's context
      have J7 : Inv X pins σ G5 z6 := J3.call' (ch := fps) J6.os J6.base J6.hok J6.bare fun b hb => ⟨(fo3 b hb).1.2.2.2.1, (fo3 b hb).1.2.1, (fo3 b hb).1.2.2.2.2.1, (fo3 b hb).1.2.2.2.2.2⟩
      have nC : G5 z3.heap.objs.size = none := by
        have z : G5 be.locals = none := J6.free
        rw [locB] at z
        exact z
      obtain ⟨m, hn, _⟩ := J6.loc
      have hn : z6.heap.Ns be.locals m := hn
      rw [locB] at hn
      exact hend D z3.heap.objs.size z6 m G5 J7 qst hn (J3.fpOk (Nat.le_refl _) nC)
    · have tit := Tw.item (X.blk z3 G3 scope be fps) rfl rfl rfl hcalm i [] z5 _ G5 (fun _ _ => False) J5 (stay J5 no5) tt5 goo
      refine thnF tit fun r z6 ⟨u, hr, h6⟩ => ?_
      subst hr
      refine thnF h6 fun _ z7 ⟨x, G7, J7, rv7, yl7, tt7, no7⟩ => ?_
      have I7' := J7.pinned (stay J7 no7) (Tw.obj _ _ tt7)
      refine thnF (pgo.run _ z7 _ G7 x u _ I7' rv7 (stp x G7 yl7)) fun _ z8 ⟨τ8, G8, J8, ew8, qq8⟩ => ?_
      refine thnF (pto.run _ z8 τ8 G8 _ J8 qq8) fun b z9 ⟨G9, J9, qq9⟩ => ?_
      -- the turn's end
      have done : ∀ {s' : Shared} {H' : Hp}, Inv (X.blk z3 G3 scope be fps) ([] ++ pinsAt fps z7.heap) τ8 H' s' → Nx H' → ∃ m, m < n ∧ ∃ i H', Inv (X.blk z3 G3 scope be fps) [] (wipe σ (own.map (·.2))) H' s' ∧ tnt i s'.heap ∧ (∀ b ∈ fps, H' b = none) ∧ Wf i m H' := fun {s' H'} I' nxt => by
        obtain ⟨m', hmm, w'⟩ := eNx H' nxt
        have pin' : ∀ b ∈ fps, ∀ o, z7.heap.get? b = some o → s'.heap.get? b = some o ∧ H' b = none := fun b hb o e =>
          let z := I'.pin (b, o) (List.mem_append_right _ (List.mem_append_right _ (mem_pinsAt hb e)))
          ⟨z.1, z.2.1⟩
        have hll : (wipe σ (own.map (·.2))).length = τ8.length := by rw [← ew8, wipe_length]
        refine ⟨m', hmm, i + 1, H', (I'.unpinned (pins := [])).weak hll (fun j v e => ?_), Tw.keep _ _ _ tt7 fun b hb o e => (pin' b hb o e).1, fun b hb => ?_, w'⟩
        · rw [← ew8] at e
          exact (wipe_some e).1
        · obtain ⟨o, e, _⟩ := Tw.obj _ _ tt7 b hb
          exact (pin' b hb o e).2
      cases b with
      | false =>
        simp only [Bool.false_eq_true, if_false] at qq9 ⊢
        exact done J9 qq9
      | true =>
        simp only [if_true] at qq9 ⊢
        refine thnF (pvl.run _ z9 τ8 G9 _ J9 qq9) fun z z10 ⟨yv, G10, J10, r10, bt, L0, kk, ey, eD10, k1, k2, hfew, nxt⟩ => ?_
        subst ey
        cases (show z = Value.ref bt from r10)
        exact addT_ok (X := X.blk z3 G3 scope be fps) hun J10 eD10 k1 k2 hfew fun L' c1 c2 z11 J11 => done J11 (nxt L' c1 c2)
  exact PpSet.codeAny_compStart_set lup (Tw.self X.A 0 _ _ _ tt4 lup)
/-- as a value -/
theorem pe_ssc {elt tg iter : Expr} {ifs : List Expr} {scope : Scope} {own : List (PySem.Str × Nat)} {pos : Pos} {wi : TI} {g : TG} {tt : TT} {te : TE} (hun : X.A.units + 64 < cLine) (hcalm : X.calm = true) (hnd : X.N.Nodup) (hit : PI X tg iter wi) (bok : BlkOk X.N X.env.scope scope own)
    (hgo : ∀ (s : Shared) (H : Hp) (C : Addr) (cl : List (PySem.Str × Addr)) (fps : List Addr), PG (X.blk s H scope (compEnvC scope cl C X.env) fps) tg g) (htt : ∀ (s : Shared) (H : Hp) (C : Addr) (cl : List (PySem.Str × Addr)) (fps : List Addr), PTs (X.blk s H scope (compEnvC scope cl C X.env) fps) ifs tt)
    (hvl : ∀ (s : Shared) (H : Hp) (C : Addr) (cl : List (PySem.Str × Addr)) (fps : List Addr), PE (X.blk s H scope (compEnvC scope cl C X.env) fps) elt te) (hfo : ∀ x, foldedSetIterable iter X.env x = pure x := by intro _; rfl) :
    PE X (.SetComp elt [⟨tg, iter, ifs, 0⟩] scope pos) (tSs X.K X.prog X.w wi g tt te (own.map (·.2))) := by
  refine ⟨fun pins s σ H Q I h => ?_⟩
  rw [PpSet.eval_SetComp]
  refine ssc_core hun hcalm hnd I hit bok hgo htt hvl hfo h fun D C s' m H' I' q hn f => ⟨m, hn, fun h'' sb => ?_⟩
  obtain ⟨f0, f1, fo2, fo3, f4, f5⟩ := f
  exact ⟨.ref D, H', I'.turned (t' := s'.toks) (fun b o hb e => (sb.2 b hb).trans e) f0 f1 fo3 f4 f5, rfl, q⟩
end
end Nb
end
section
set_option Elab.async false
set_option linter.all false
set_option maxRecDepth 100000
set_option maxHeartbeats 4000000
/-! NbZc: sorted({tuple for ..}) -/
namespace Nb
open PySem PySem.Spec PyProof.Rows L2

theorem scParts_eq {e x : Expr} {y : Str} {tg iter : Expr} {ifs : List Expr} {a : Int} {scope : Scope} (h : scParts e = some (y, x, ⟨tg, iter, ifs, a⟩, scope)) : ∃ p1 p2 p3, e = .Call (.Name y p1) [.SetComp x [⟨tg, iter, ifs, 0⟩] scope p2] [] p3 := by
  unfold scParts at h
  split at h
  · split at h
    · rename_i h0
      cases h
      have h0 : a = 0 := h0
      subst h0
      exact ⟨_, _, _, rfl⟩
    · cases h
  · cases h
theorem mat_ssc {M : Mc} {e : Expr} {w : List Nat} {t : Tg} {it : It} {c : Op} {el : Ex} (h : mat M (.ssc w t it c el) e = true) : ∃ x tg iter ifs scope p1 p2 p3, e = .Call (.Name ("sorted" : Str) p1) [.SetComp x [⟨tg, iter, ifs, 0⟩] scope p2] [] p3 ∧ gloB M.sc ("sorted" : Str) = true ∧ blkC M.N M.sc scope (ownOf M.N w) = true ∧ (ownOf M.N w).map (·.2) = w ∧ notSet iter = true ∧
    matI M it iter tg = true ∧ tgIn w t = true ∧ matT (M.blk scope) t tg = true ∧ matC (M.blk scope) c ifs = true ∧ stg el = true ∧ mat (M.blk scope) el x = true ∧ M.calm = true := by
  unfold mat at h
  cases e1 : scParts e with
  | none => rw [e1] at h; exact ff h
  | some q =>
    obtain ⟨y, x, ⟨tg, iter, ifs, a⟩, scope⟩ := q
    rw [e1] at h
    obtain ⟨p1, p2, p3, rfl⟩ := scParts_eq e1
    obtain ⟨a12, h12⟩ := b2 h
    obtain ⟨a11, h11⟩ := b2 a12
    obtain ⟨a10, h10⟩ := b2 a11
    obtain ⟨a9, h9⟩ := b2 a10
    obtain ⟨a8, h8⟩ := b2 a9
    obtain ⟨a7, h7⟩ := b2 a8
    obtain ⟨a6, h6⟩ := b2 a7
    obtain ⟨a5, h5⟩ := b2 a6
    obtain ⟨a4, h4⟩ := b2 a5
    obtain ⟨a3, h3⟩ := b2 a4
    obtain ⟨h1, h2⟩ := b2 a3
    have h1 := of_decide_eq_true h1
    subst h1
    exact ⟨_, _, _, _, _, _, _, _, rfl, h2, h3, of_decide_eq_true h4, h5, h6, h7, h8, h9, h10, h11, h12⟩
theorem Grow.hideR {F0 : Hp} {R0 : List Addr} {H0 F : Hp} {R : List Addr} {H : Hp} {Dl : Addr} (g : Grow F0 R0 H0 F R H) (h : H0 Dl = none) : Grow F0 R0 H0 F R (hideD Dl H) :=
  ⟨g.sameF, g.pre, fun a o h1 h2 => by
    have ne : a ≠ Dl := fun e => by rw [e, h] at h1; cases h1
    rw [hideD_ne ne]; exact g.keep a o h1 h2, fun a h1 => by
    by_cases e : a = Dl
    · rw [e]; exact h
    · rw [hideD_ne e] at h1; exact g.back a h1, g.newF, g.newR⟩
theorem StOk.hide {K : PySem.W.Frag} {F : Hp} {R : List Addr} {H : Hp} {st : Sto} {Dl : Addr} (so : StOk K F R H st) (hf : F Dl = none) (hr : Dl ∉ R) : StOk K F R (hideD Dl H) st := by
  refine ⟨fun b u e => ?_, so.len, so.nd, so.free, fun n o a h1 h2 => ORel.mono (Same.refl _) List.prefix_rfl (fun u hu => ?_) (so.obj n o a h1 h2)⟩
  · have ne : b ≠ Dl := fun z => by rw [z, hf] at e; cases e
    rw [hideD_ne ne]; exact so.same b u e
  · have ne : a ≠ Dl := fun z => hr (by rw [← z]; exact List.mem_of_getElem? h2)
    rw [hideD_ne ne]; exact hu
theorem upd_hide {H : Hp} {Dl : Addr} {o : HO} (h : H Dl = some o) : upd (hideD Dl H) Dl o = H := by
  funext b
  by_cases e : b = Dl
  · rw [e, upd_same, h]
  · rw [upd_ne e, hideD_ne e]
section
variable {T : Tb} {cl : Cl} {X : Cx} {EX : EXT}
structure LsSt (P : Program) (wd : World) (B : Int) (n : Nat) (K : PySem.W.Frag) (F1 : Hp) (R1 : List Addr) (H1 : Hp) (f : D → Sto → Res (Option D)) (ds xs : List D) (s2 : Sto) (Dl : Addr) (i : Nat) (H : Hp) : Prop where
  h : ∃ (F : Hp) (R : List Addr) (st : Sto) (ks L : List (Addr × List Int)) (rest : List D), Grow F1 R1 H1 F R H ∧ StOk K F R H st ∧ F Dl = none ∧ Dl ∉ R ∧ H Dl = some (SetTO P wd Dl L) ∧ (∀ p ∈ ks, F p.1 = some (.tup (p.2.map V.int)) ∧ p.2.length = n ∧ TS.Bd B p.2) ∧ (∀ p ∈ L, p ∈ ks) ∧ (∀ p ∈ ks, p.2 ∈ L.map (·.2)) ∧ L.length ≤ ks.length ∧
    i ≤ ds.length ∧ lcLoop f (ds.drop i) st = .ok rest s2 ∧ xs = ks.map (fun (p : Addr × List Int) => D.tup (p.2.map D.int)) ++ rest
theorem ss_walk {w : List Nat} {t : Tg} {cc : Op} {el : Ex} {J : L2.It} {ds xs : List D} {s1 s2 : Sto} {m : Md} {Q : VK} {σ : L2.St} {env : Enw} {F1 : Hp} {R1 : List Addr} {H1 : Hp} {B : Int} {n : Nat}
    (so1 : StOk X.K F1 R1 H1 s1) (eo1 : EnvOk X.K EX F1 R1 H1 env σ) (wk : Walk X.K (reach .t F1 R1 H1) J ds) (hw : tgIn w t = true) (hn : 1 ≤ n) (hx : ∀ d ∈ xs, TOk B n d) (hfew : xs.length < 64)
    (e1 : lcLoop (turnC w t (semC T cl cc) (sem T cl el).v env) ds s1 = .ok xs s2) (k : Fin m X.K F1 R1 H1 s2 (.lst (sortBy (fun d => TS.code B (intsD d)) (dedupD xs))) Q) : ∀ Dl, H1 Dl = none → ∃ Wf : Nat → Nat → Hp → Prop, (∃ m, Wf 0 m (upd H1 Dl (SetTO X.prog X.w Dl []))) ∧ ∀ i m H, Wf i m H →
      ((J.stop i H ∧ rSortedT X.K X.prog X.w [.ref Dl] H Q) ∨ (J.go i H ∧ ∃ Nx : Hp → Prop, (∀ H', Nx H' → ∃ m', m' < m ∧ Wf (i + 1) m' H') ∧ ∀ x H', J.yld i H x H' → gD X.K EX t x (wipe σ w) H' fun σ2 H2 => wipe σ2 w = wipe σ w ∧ tT X.K EX noW (semC T cl cc) σ2 H2 fun b H3 =>
        if b = true then tE .s X.K EX noW (sem T cl el).v σ2 H3 fun y H4 => ∃ (b : Addr) (L : List (Addr × List Int)) (k : List Int), y = .ref b ∧ H4 Dl = some (SetTO X.prog X.w Dl L) ∧ SqT X.K H4 b (k.map V.int) ∧ (∀ p ∈ L, SqT X.K H4 p.1 (p.2.map V.int)) ∧ L.length + 1 < 64 ∧
          ∀ L' : List (Addr × List Int), (k ∈ L.map (·.2) → L' = L) → (k ∉ L.map (·.2) → L'.Perm ((b, k) :: L)) → Nx (upd H4 Dl (SetTO X.prog X.w Dl L')) else Nx H3)) := fun Dl hD => by
  let f := turnC w t (semC T cl cc) (sem T cl el).v env
  refine ⟨fun i m H => m = ds.length - i ∧ LsSt X.prog X.w B n X.K F1 R1 H1 f ds xs s2 Dl i H, ⟨ds.length, by simp, ?_⟩, ?_⟩
  · have hr : Dl ∉ R1 := fun h => by
      obtain ⟨o, ho⟩ := so1.there h
      rw [hD] at ho; cases ho
    exact ⟨F1, R1, s1, [], [], xs, .newH hD, so1.newH hD, so1.same.free hD, hr, upd_same, fun _ h => absurd h List.not_mem_nil, fun _ h => absurd h List.not_mem_nil, fun _ h => absurd h List.not_mem_nil, Nat.le_refl _, Nat.zero_le _, by simpa using e1, rfl⟩
  rintro i mm H ⟨rfl, F, R, st, ks, L, rest, g, so, hf, hr, hv, hk, hL, hA, hLl, hi, hl, hxx⟩
  by_cases hlt : i < ds.length
  · right
    have hd : ds[i]? = some ds[i] := List.getElem?_eq_getElem hlt
    obtain ⟨w1, w2⟩ := wk.go F R H st i _ g so hd
    refine ⟨w1, fun H' => LsSt X.prog X.w B n X.K F1 R1 H1 f ds xs s2 Dl (i + 1) H', fun H' h => ⟨ds.length - (i + 1), by omega, rfl, h⟩, fun x H' hy => ?_⟩
    obtain ⟨F', g', so', rx⟩ := w2 x H' hy
    rw [List.drop_eq_getElem_cons hlt] at hl
    obtain ⟨o, st1, r, l1, l2, l3⟩ := lcLoop_cons hl
    obtain ⟨en, b, s1', t1, t2, t3⟩ := turnC_ok l1
    have gg := g.trans g'
    have hv' := g'.keep Dl _ hv hr
    obtain ⟨hr', hf'⟩ := g'.offR hv hr hf
    have eo' : EnvOk X.K EX F' R H' (env.wipe w) (wipe σ w) := (eo1.grow gg).wipe w
    refine ⟨F', R, st, _, ds[i], en, so', eo', rx, t1, fun σ' eo2 hw2 _ => ⟨by rw [hw2 w hw]; exact wipe_wipe, F', R, en, st, so', eo2, ?_⟩⟩
    rw [t2]
    intro F2 R2 H2 g2 so2
    have hv2 := g2.keep Dl _ hv' hr'
    obtain ⟨hr2, hf2⟩ := g2.offR hv' hr' hf'
    rcases t3 with ⟨hb, x', t4, ho⟩ | ⟨hb, ho, hs⟩
    · subst hb ho
      show if true = true then _ else _
      rw [if_pos rfl]
      refine ⟨F2, R2, en, s1', so2, eo2.grow g2, ?_⟩
      rw [t4]
      intro F3 R3 H3 g3 so3
      refine ⟨trivial, fun y ry => ?_⟩
      have hv3 := g3.keep Dl _ hv2 hr2
      obtain ⟨hr3, hf3⟩ := g3.offR hv2 hr2 hf2
      have l3' : rest = x' :: r := l3
      have hm : x' ∈ xs := by rw [hxx, l3']; simp
      obtain ⟨k1, f1, f2, f3⟩ := tups_at (Rels.one (show Rel X.K F3 R3 x' y from ry)) (B := B) (n := n) fun d hd => by
        rw [List.mem_singleton.mp hd]; exact hx x' hm
      rcases k1 with _ | ⟨p0, _ | ⟨_, _⟩⟩
      · cases f1
      · injection f1 with f1 _
        injection f2 with f2 _
        have hk3 : ∀ p ∈ ks ++ [p0], F3 p.1 = some (.tup (p.2.map V.int)) ∧ p.2.length = n ∧ TS.Bd B p.2 := fun p hp => by
          rcases List.mem_append.mp hp with hp | hp
          · obtain ⟨z1, z2⟩ := hk p hp
            exact ⟨g3.sameF _ _ (g2.sameF _ _ (g'.sameF _ _ z1)), z2⟩
          · rw [List.mem_singleton.mp hp]
            exact f3 p0 (List.mem_cons_self ..)
        have sq : ∀ p ∈ ks ++ [p0], SqT X.K H3 p.1 (p.2.map V.int) := fun p hp => .inl (.inl (so3.same _ _ (hk3 p hp).1))
        have hks : ks.length + 1 ≤ xs.length := by rw [hxx, l3']; simp
        refine ⟨p0.1, L, p0.2, f1, hv3, sq p0 (by simp), fun p hp => sq p (List.mem_append_left _ (hL p hp)), by omega, fun L' c1 c2 => ?_⟩
        have hLL : (∀ p ∈ L', p ∈ ks ++ [p0]) ∧ (∀ p ∈ ks ++ [p0], p.2 ∈ L'.map (·.2)) ∧ L'.length ≤ (ks ++ [p0]).length := by
          by_cases c : p0.2 ∈ L.map (·.2)
          · rw [c1 c]
            refine ⟨fun p hp => List.mem_append_left _ (hL p hp), fun p hp => ?_, by simp; omega⟩
            rcases List.mem_append.mp hp with hp | hp
            · exact hA p hp
            · rw [List.mem_singleton.mp hp]; exact c
          · have pm := c2 c
            refine ⟨fun p hp => ?_, fun p hp => ?_, by rw [pm.length_eq]; simp; omega⟩
            · rcases List.mem_cons.mp (pm.mem_iff.mp hp) with e | hp
              · rw [e]; exact List.mem_append_right _ (List.mem_singleton.mpr rfl)
              · exact List.mem_append_left _ (hL p hp)
            · rw [(pm.map (·.2)).mem_iff]
              rcases List.mem_append.mp hp with hp | hp
              · exact List.mem_cons_of_mem _ (hA p hp)
              · rw [List.mem_singleton.mp hp]; exact List.mem_cons_self ..
        exact ⟨F3, R3, st1, ks ++ [p0], L', r, ((gg.trans g2).trans g3).mut hD, so3.mut hf3 hr3, hf3, hr3, upd_same, hk3, hLL.1, hLL.2.1, hLL.2.2, hlt, l2, by rw [hxx, l3', f2]; simp⟩
      · cases f1
    · subst hb ho hs
      show if false = true then _ else _
      rw [if_neg Bool.false_ne_true]
      exact ⟨F2, R2, _, ks, L, r, gg.trans g2, so2, hf2, hr2, hv2, fun p hp => ⟨g2.sameF _ _ (g'.sameF _ _ (hk p hp).1), (hk p hp).2⟩, hL, hA, hLl, hlt, l2, by rw [hxx, show rest = r from l3]⟩
  · left
    have e : i = ds.length := by omega
    subst e
    refine ⟨wk.stop F R H st g so, ?_⟩
    rw [List.drop_length] at hl
    cases hl
    rw [List.append_nil] at hxx
    subst hxx
    have hh : hideD Dl H Dl = none := if_pos rfl
    have q := set_sorted (P := X.prog) (w := X.w) (m := m) (a := Dl) (Q := Q) (so.hide hf hr) hn hk hh hL hA (fun F' R' H' v g2 so' r => k F' R' H' v ((g.hideR hD).trans g2) so' (r.back (g.hideR hD).back))
    rw [upd_hide hv] at q
    exact q
theorem snd_ssc {w : List Nat} {t : Tg} {it : It} {cc : Op} {el : Ex} (hi : SndI T cl it) (hg : gdI .t it = true) (hc : SndC T cl cc) (he : Snd T cl el) : Snd T cl (.ssc w t it cc el) := Snd.mkT (fun {X M EX W} c e h m hgm => by
    obtain ⟨x, tg, iter, ifs, scope, p1, p2, p3, rfl, h0, h1, h2, h3, h4, h5, h6, h7, h8, h9, h10⟩ := mat_ssc h
    obtain ⟨g1, g2⟩ := c.glo h0
    have hok : BlkOk X.N X.env.scope scope (ownOf M.N w) := by
      rw [c.sc, c.N]
      exact blkOk_by h1
    have hu := c.units
    have hcm := c.calm h10
    refine pe_imp (pe_callB (cr_sortedT hcm) g1 (c.blt _ (by decide)) rfl (pa_cons (pe_ssc (g := gD X.K EX t) (tt := tT X.K EX noW (semC T cl cc)) (te := tE .s X.K EX noW (sem T cl el).v) (by omega) hcm c.nd (hi.i c h4 .t hg) hok (fun s H C cv fp => pg_D (c.blk h10) h6) (fun s H C cv fp => hc.c (c.blk h10) h7) (fun s H C cv fp => he.v (c.blk h10) h9 .s h8) (folded_no h3)) pa_nil)) fun σ H Q ⟨F, R, env, st, so, eo, q⟩ => ?_
    rw [h2]
    refine ⟨F, R, env, st, so, eo, q.bind.eqn.imp fun ds s1 F1 R1 H1 g1 so1 q1 J wk => ?_⟩
    obtain ⟨q0, q1⟩ := q1
    cases e1 : (lcLoop (turnC w t (semC T cl cc) (sem T cl el).v env) ds s1).nox with
    | bad => rw [e1] at q1; exact q1.elim
    | exc _ _ _ =>
      cases e2 : lcLoop (turnC w t (semC T cl cc) (sem T cl el).v env) ds s1 <;> rw [e2] at e1 <;> cases e1
    | ok xs s2 =>
      rw [e1] at q1
      have e2 := nox_ok e1
      replace q1 : After X.K W σ F1 R1 H1 (if tupsOk xs && decide (xs.length < 64) then Res.ok (D.lst (sortBy (fun d => TS.code (boundD xs) (intsD d)) (dedupD xs))) s2 else Res.bad) _ := q1
      by_cases hb : (tupsOk xs && decide (xs.length < 64)) = true
      · rw [if_pos hb] at q1
        obtain ⟨k3, k4⟩ := b2 hb
        obtain ⟨n, hn, ht⟩ := tups_ok k3
        have k : Fin m X.K F1 R1 H1 s2 (.lst (sortBy (fun d => TS.code (boundD xs) (intsD d)) (dedupD xs))) Q := fun F' R' H' v g so' r => (q1 F' R' H' g so').2 v (r.back g1.back)
        exact ss_walk so1 (eo.grow g1) wk h5 hn ht (of_decide_eq_true k4) e2 k
      · rw [if_neg hb] at q1
        exact q1.elim)
  (fun {M e} h => by obtain ⟨x, tg, iter, ifs, scope, p1, p2, p3, rfl, _⟩ := mat_ssc h; rfl) rfl
end
end Nb
end
section
set_option Elab.async false
set_option linter.all false
set_option maxRecDepth 100000
set_option maxHeartbeats 4000000
/-! NbZd: every expression, every statement -/
namespace Nb
open PySem PySem.Spec PyProof.Rows L2
section
variable {T : Tb} {cl : Cl}
theorem snd_no {a : Ex} (h : ∀ M e, mat M a e = false) : Snd T cl a where
  v := fun {X M EX W} c e q => by rw [h] at q; cases q
  b := fun {X M EX W} c e q => by rw [h] at q; cases q
theorem mt_no {m : Mt} {a : Ex} {es : Es} (h : es.len ≠ 1) : Snd T cl (.mt m a es) := snd_no fun M e => by
  cases hq : mat M (.mt m a es) e with
  | false => rfl
  | true =>
    obtain ⟨_, _, _, _, _, _, _, _, _, h4, _⟩ := mat_mt hq
    exact absurd h4 h
theorem gdI_t {it : It} : gdI .t it = true := by cases it <;> rfl
theorem sndI_no {it : It} (h : ∀ M e tg, matI M it e tg = false) : SndI T cl it where
  i := fun {X M EX W} c e tg q => by rw [h] at q; cases q
mutual
theorem sndE : ∀ ir : Ex, Snd T cl ir
  | .var i => snd_var i
  | .peek i => snd_peek i
  | .glb x => snd_glb x
  | .kon k => snd_kon k
  | .un _ a => snd_un (sndE a)
  | .nt a => snd_nt (sndE a)
  | .bin _ a b => snd_bin (sndE a) (sndE b)
  | .cmp _ a b => snd_cmp (sndE a) (sndE b)
  | .chn _ _ a b c => snd_chn (sndE a) (sndE b) (sndE c)
  | .bop _ a b => snd_bop (sndE a) (sndE b)
  | .ite c a b => snd_ite (sndE c) (sndE a) (sndE b)
  | .idx a i => snd_idx (sndE a) (sndE i)
  | .slc a lo hi => snd_slc (sndE a) (sndO lo) (sndO hi)
  | .rev a => snd_rev (sndE a)
  | .dE t => snd_dE
  | .tup es => snd_tup (sndAll es).a
  | .lst es => snd_lst (sndAll es).a
  | .cal f es ks => snd_cal (sndAll es)
  | .bi b es => if hb : b = .ssrt then (match es, sndAll es with
      | .cons a .nil, h => by subst hb; exact snd_ssrt h.1
      | .nil, _ => by subst hb; exact snd_no fun M e => by cases e <;> first | rfl | (rename_i f xs ks p; cases f <;> first | rfl | (cases ks <;> simp [mat]))
      | .cons a (.cons b es), _ => by subst hb; exact snd_no fun M e => by cases e <;> first | rfl | (rename_i f xs ks p; cases f <;> first | rfl | (cases ks <;> simp [mat]))) else snd_bi hb (sndAll es).a
  | .mt m a es => if hm : m = .index then snd_mt hm (sndE a) (sndAll es).a else (match es, sndAll es with
      | .cons b .nil, h => by
        cases m
        · exact absurd rfl hm
        · exact snd_join (sndE a) h.1
        · exact snd_split (sndE a) h.1
      | .nil, _ => mt_no (by simp [Es.len])
      | .cons b (.cons b' es), _ => mt_no (by simp [Es.len]))
  | .lc w t it c e => snd_lc (sndI it) gdI_t (sndC c) (sndE e)
  | .lc2 w w1 t it t1 it1 c e => snd_lc2 (sndI it) gdI_t (sndI it1) (sndC c) (sndE e)
  | .dcK w t it k v => snd_dcK (sndI it) gdI_t (sndE k) (sndE v)
  | .dcT w t it k v => snd_dcT (sndI it) gdI_t (sndE k) (sndE v)
  | .ssc w t it c e => snd_ssc (sndI it) gdI_t (sndC c) (sndE e)
  | .isi a ts => snd_isi (sndE a)
  | .new a => snd_new (sndE a)
  | .popR a i => snd_popR (sndE a) (sndK i)
  | .exf i f => snd_exf
  | .gix x k => snd_gix (sndE k)
  | .exi i c => snd_no fun M e => by unfold mat; rfl
  | .rg1 t a => snd_rg1 (sndE a)
  | .rg2 t a b => snd_rg2 (sndE a) (sndE b)
theorem sndAll : ∀ es : Es, AllS T cl es
  | .nil => trivial
  | .cons a es => ⟨sndE a, sndAll es⟩
theorem sndO : ∀ o : Op, SndO T cl o
  | .no => sndO_no
  | .so a => sndO_so (sndE a)
theorem sndK : ∀ o : Op, ∀ k, o = .so k → Snd T cl k
  | .no => fun _ h => by cases h
  | .so a => fun k h => by cases h; exact sndE a
theorem sndC : ∀ o : Op, SndC T cl o
  | .no => sndC_no
  | .so a => sndC_so (sndE a)
theorem sndI : ∀ it : It, SndI T cl it
  | .seq a => sndI_seq (sndE a)
  | .rng es => sndI_rng (sndAll es).a
  | .zip a b => sndI_zip (sndE a) (sndE b)
  | .zips a => sndI_no fun M e tg => by unfold matI; rfl
  | .enu a => sndI_enu (sndE a)
end
theorem sndL {a : Ex} (h : isLcI a = true) : SndL T cl a := by
  cases a <;> first | exact ff h | skip
  · exact sndL_lc (sndI _) gdI_t (sndC _) (sndE _)
  · exact sndL_lc2 (sndI _) gdI_t (sndI _) (sndC _) (sndE _)
  · exact sndL_dcK (sndI _) gdI_t (sndE _) (sndE _)
  · exact sndL_dcT (sndI _) gdI_t (sndE _) (sndE _)
theorem snS_no {a : Sm} (h : ∀ M e, matS M a e = false) : SndS T cl a where
  s := fun {X M EX W} c e q => by rw [h] at q; cases q
mutual
theorem sndSm : ∀ s : Sm, SndS T cl s
  | .asg (.nm i) a => snS_asg (sndE a) sndL
  | .asg (.tp is) a => snS_asgT (sndE a)
  | .asgO i a => snS_asgO (sndE a) sndL
  | .par ts es => snS_par (sndAll es)
  | .aug i o a => snS_aug (sndE a)
  | .setO i k a => snS_setO (sndE k) (sndE a)
  | .appO i a => snS_appO (sndE a)
  | .insO i k a => snS_insO (sndE k) (sndE a)
  | .setR o k a => snS_setR (sndE o) (sndE k) (sndE a)
  | .appR o a => snS_appR (sndE o) (sndE a)
  | .drop a => snS_drop (sndE a)
  | .ret a => snS_ret (sndE a)
  | .retN => snS_retN
  | .iff c a b => snS_iff (sndE c) (sndSs a) (sndSs b)
  | .whl c b => snS_whl (sndE c) (sndSs b)
  | .forr t it b => snS_forr (sndI it) (sndSs b)
  | .brk => snS_brk
  | .cnt => snS_cnt
  | .pas => snS_pas
  | .rai c es => snS_rai (sndAll es)
  | .tri b hs => snS_tri (sndSs b) (sndHs hs)
  | .frz i => snS_no fun M e => by cases e <;> rfl
theorem sndSs : ∀ ss : Ss, SndSs T cl ss
  | .nil => snSs_nil
  | .cons (.frz i) ss => snSs_frz (sndSs ss)
  | .cons (.asg t a) ss => snSs_cons (fun _ h => by cases h) (sndSm (.asg t a)) (sndSs ss)
  | .cons (.asgO t a) ss => snSs_cons (fun _ h => by cases h) (sndSm (.asgO t a)) (sndSs ss)
  | .cons (.par t a) ss => snSs_cons (fun _ h => by cases h) (sndSm (.par t a)) (sndSs ss)
  | .cons (.aug i o a) ss => snSs_cons (fun _ h => by cases h) (sndSm (.aug i o a)) (sndSs ss)
  | .cons (.setO i o a) ss => snSs_cons (fun _ h => by cases h) (sndSm (.setO i o a)) (sndSs ss)
  | .cons (.appO i a) ss => snSs_cons (fun _ h => by cases h) (sndSm (.appO i a)) (sndSs ss)
  | .cons (.insO i o a) ss => snSs_cons (fun _ h => by cases h) (sndSm (.insO i o a)) (sndSs ss)
  | .cons (.setR i o a) ss => snSs_cons (fun _ h => by cases h) (sndSm (.setR i o a)) (sndSs ss)
  | .cons (.appR i a) ss => snSs_cons (fun _ h => by cases h) (sndSm (.appR i a)) (sndSs ss)
  | .cons (.drop a) ss => snSs_cons (fun _ h => by cases h) (sndSm (.drop a)) (sndSs ss)
  | .cons (.ret a) ss => snSs_cons (fun _ h => by cases h) (sndSm (.ret a)) (sndSs ss)
  | .cons .retN ss => snSs_cons (fun _ h => by cases h) snS_retN (sndSs ss)
  | .cons (.iff c a b) ss => snSs_cons (fun _ h => by cases h) (sndSm (.iff c a b)) (sndSs ss)
  | .cons (.whl c b) ss => snSs_cons (fun _ h => by cases h) (sndSm (.whl c b)) (sndSs ss)
  | .cons (.forr t it b) ss => snSs_cons (fun _ h => by cases h) (sndSm (.forr t it b)) (sndSs ss)
  | .cons .brk ss => snSs_cons (fun _ h => by cases h) snS_brk (sndSs ss)
  | .cons .cnt ss => snSs_cons (fun _ h => by cases h) snS_cnt (sndSs ss)
  | .cons .pas ss => snSs_cons (fun _ h => by cases h) snS_pas (sndSs ss)
  | .cons (.rai c es) ss => snSs_cons (fun _ h => by cases h) (sndSm (.rai c es)) (sndSs ss)
  | .cons (.tri b hs) ss => snSs_cons (fun _ h => by cases h) (sndSm (.tri b hs)) (sndSs ss)
theorem sndHs : ∀ hs : Hs, SndHs T cl hs
  | .nil => .nil
  | .cons c i b hs => .cons (sndSs b) (sndHs hs)
end
end
end Nb
end
section
set_option Elab.async false
set_option linter.all false
set_option maxRecDepth 100000
set_option maxHeartbeats 4000000
/-! NbEr: own errors whose __init__ says super().__init__(msg); self.f = f -/
namespace Nb.Er
open PySem PySem.W PySem.Calls PyProof.Rows PySem.HandSPX
open Builtin Builtin.ObjectAttr

abbrev bmE : List Value := [.type "Exception", .type "BaseException", .type "object"]
def iA (f : Str) (p1 p2 : Pos) : Arguments := { posonlyargs := [], args := [{ arg := "self", annotation := none, pos := p1 }, { arg := f, annotation := none, pos := p2 }], vararg := none, kwonlyargs := [], kw_defaults := [], kwarg := none, defaults := [] }
def iB (f msg : Str) (q1 q2 q3 q4 q5 q6 q7 q8 q9 q10 : Pos) : List Stmt :=
  [.Expr (.Call (.Attribute (.Call (.Name "super" q1) [] [] q2) "__init__" q3) [.Constant (.str msg) 0 q4] [] q5) q6, .Assign [.Attribute (.Name "self" q7) f q8] (.Name f q9) q10]
def iS (f : Str) : Scope := { kind := .function, names := [(PySem.Str.ofString "self", .local), (f, .local), (PySem.Str.ofString "__class__", .free), (PySem.Str.ofString "super", .globalImplicit)], isGenerator := false, isCoroutine := false, more := [] }
/-- a field's name -/
def FOk (f : Str) : Prop := f = "at" ∨ f = "word" ∨ f = "name"
/-- what the written part says of an error class x, at C, and of its __init__, at fI -/
structure ErrTxt (prog : Program) (K : Frag) (mg : Str → Option Value) (x : Str) (C fI : Addr) (f : Str) : Prop where
  gC : mg x = some (.ref C)
  cls : ∃ nm q N bs bm sn sub ab col dd k0 k1 k2 k3 k5, K.lookup C = some (excClassObj nm q C N bs bm true sn sub ab col dd k0 k1 k2 k3 k5 "Exception.__new__") ∧ excTail bmE bm = true
  sa : findIn K (.ref C) "__setattr__" = some (some (.builtin "object.__setattr__"))
  noN : findIn K (.ref C) f = some none
  iC : findIn K (.ref C) "__init__" = some (some (.ref fI))
  tC : typeIn K (.ref fI) = some (.type "function")
  kC : keepIn K (.ref C) = true
  exC : subIn K (.ref C) (.type "BaseException") = some true
  eX : subIn K (.ref C) (.type "Exception") = some true
  tyC : typeIn K (.ref C) = some (.type "type")
  sup : ks_superIn K C C "__init__" = some (some (.builtin "Exception.__init__"))
  opq : nsIn K cStatics "thirdparty.any" = some none
  nsu : mg "super" = none
  fo : FOk f
  htop : (prog.main.scope.names.lookup ("super" : Str)).isSome = false
  fn : ∃ (oc : Value) (od : Option Addr) (qual msg : Str) (doc pm : Value) (an : Option Addr) (ct : Value) (cda cc : Addr) (osl : Array (Option Value)) (p1 p2 q1 q2 q3 q4 q5 q6 q7 q8 q9 q10 : Pos) (vs : Array Value) (file : Str) (tf : Tok) (ccl cl : Value) (cdd cld : Option Addr) (ccs csl : Array (Option Value)), (q3.endLine == q5.line) = true ∧
    K.lookup fI = some ⟨oc, od, .func (ksFn "__init__" qual (iA f p1 p2) (iB f msg q1 q2 q3 q4 q5 q6 q7 q8 q9 q10) (iS f) .none .none doc pm an (.ref cda) ct cc), osl⟩ ∧ codeIn K (.ref cda) qual = true ∧
    K.lookup cda = some ⟨ccl, cdd, .fields vs, ccs⟩ ∧ vs[2]? = some (.str file tf) ∧ ((prog.main.file : Str) == file) = true ∧ K.lookup cc = some ⟨cl, cld, .cell (some (.ref C)), csl⟩
theorem excTail_has (X : String) (hX : bmE.contains (.type X) = true) {bm : List Value} (h : excTail bmE bm = true) : bm.contains (.type X) = true := (excTail_contains X bm h).trans hX
/-- what __init__ leaves of a fresh exception at x -/
structure InitEnd (h h' : Heap) (f : Str) (x C dx : Addr) (v : Value) : Prop where
  keep : ∀ b o, b ≠ x → h.get? b = some o → h'.get? b = some o
  obj : ∃ t1 : Addr, h'.get? x = some { cls := .ref C, dict := some dx, data := .fields #[.ref t1, .none, .none, .none, .bool false, .none] }
  dbig : h.objs.size ≤ dx
  dne : dx ≠ x
  ns : h'.Ns1 dx (fun y => if y = f then some v else none)
section
variable {prog : Program} {w : World} {A : Around} {E : Value → Shared → Prop} {R : Result → Shared → Prop} {hp : Heap} {g : Array GenState} {d : Drawn} {t : Nat} {os : OsState} {K : Frag} {mg : Str → Option Value} {x : Str} {C fI : Addr} {f : Str}
/-- self.f = v, the first store -/
theorem osa_new {name : Str} {tk : Tok} {v : Value} {e : Addr} {fv : Array Value} (X : K.In hp) (hx : hp.get? e = some { cls := .ref C, data := .fields fv }) (T : ErrTxt prog K mg x C fI name)
    (hq : ∀ h' tk' dx, (∀ b o, b ≠ e → hp.get? b = some o → h'.get? b = some o) → hp.objs.size ≤ dx → dx ≠ e → h'.get? e = some { cls := .ref C, dict := some dx, data := .fields fv } →
      h'.Ns1 dx (fun y => if y = name then some v else none) → R (.ok (.ret .none)) ⟨h', g, d, tk', os⟩) :
    codeAny (model prog w) A (.call (.builtin "object.__setattr__") ⟨[.ref e, .str name tk, v], []⟩) R ⟨hp, g, d, t, os⟩ := by
  obtain ⟨nm, q, N, bs, bm, sn, sub, ab, col, dd, k0, k1, k2, k3, k5, hC, hbm⟩ := T.cls
  have hcl : clsIn K C = some { name := nm, bases := bs, mro := .ref C :: bm, ns := N, qualname := q, hasDict := true, slotNames := sn, subclasses := sub, abstract := ab, collection := col, hasDel := false } := by unfold clsIn; rw [hC] <;> rfl
  have I : W.InstAt hp e { cls := .ref C, data := .fields fv } C none := ⟨hx, rfl, rfl, trivial⟩
  have hxs : e ≠ hp.objs.size := Nat.ne_of_lt (Heap.lt_size hx)
  have hover : excOver K C bmE = true := by
    unfold excOver
    rw [hcl]
    show ((C == C) && excTail bmE bm) = true
    rw [hbm]
    simp
  have htk : takerIn K C name = some none := by unfold takerIn; rw [T.noN]; rfl
  refine osa_openX F.store_Exception X I hover htk fun b => ?_
  have hcls : W.Looks (model prog w) hp (classData C) _ := W.looks_clsIn X hcl
  show wpAny _ _ (storeInOwnDict (.ref e) (.ref C) (.str name tk) name v b) _ _ _
  unfold storeInOwnDict ownDictForStores
  repeat (first | with_reducible refine HandSPX.store_in_new ?_ ?_ | with_reducible refine wpAny_loadPart_at hx ?_ | with_reducible refine hcls.at ?_ | wp_step)
  · exact ⟨_, #[], _, (Heap.get?_update_ne _ _ _ _ hxs.symm).trans (Heap.get?_push_at rfl rfl), rfl, fun e he => absurd he (by simp), fun _ => rfl⟩
  · intro h' tk' hn' hs
    have hx₁ : (hp.push { cls := .type "dict", data := .dict #[] }).get? e = some { cls := .ref C, data := .fields fv } := Heap.get?_push_of_some _ hx
    refine hq h' tk' hp.objs.size (fun b o hb ho => ?_) (Nat.le_refl _) hxs.symm ?_ hn'
    · exact (hs.2 b (Nat.ne_of_lt (Heap.lt_size ho))).trans ((Heap.get?_update_ne _ _ _ _ hb).trans (Heap.get?_push_of_some _ ho))
    · exact (hs.2 e hxs).trans (Heap.get?_update_self _ hx₁ rfl)
theorem one_size (v : Value) : [v].length ≤ sizeLine := by
  rw [sizeLine_eq]
  exact (by decide : 1 ≤ 16777216)
theorem err_init (T : ErrTxt prog K mg x C fI f) {e t0 : Addr} {v : Value} (X : K.In hp) (G : hp.Ns mainGlobals mg) (B : ∃ mb, hp.Ns builtinsNs mb ∧ ∀ y : Str, y ≠ "__name__" → mb y = bootBuiltins y) (hlim : hp.NoLimit)
    (hx : hp.get? e = some (excO C t0)) (hnx : K.lookup e = none) (hroom : A.depth < recursionLimit) (hq : ∀ h' tk dx, InitEnd hp h' f e C dx v → R (.ok (.ret .none)) ⟨h', g, d, tk, os⟩) :
    codeAny (model prog w) A (.call (.ref fI) ⟨[.ref e, v], []⟩) R ⟨hp, g, d, t, os⟩ := by
  obtain ⟨oc, od, qual, msg, doc, pm, an, ct, cda, cc, osl, p1, p2, q1, q2, q3, q4, q5, q6, q7, q8, q9, q10, vs, file, tf, ccl, cl, cdd, cld, ccs, csl, hline, ho, hcd, hcode, hvs, hfile, hcell⟩ := T.fn
  obtain ⟨nm, q, N, bs, bm, sn, sub, ab, col, dd, k0, k1, k2, k3, k5, hC, hbm⟩ := T.cls
  obtain ⟨mb, hB, hmb⟩ := B
  have hcl : clsIn K C = some { name := nm, bases := bs, mro := .ref C :: bm, ns := N, qualname := q, hasDict := true, slotNames := sn, subclasses := sub, abstract := ab, collection := col, hasDel := false } := by unfold clsIn; rw [hC] <;> rfl
  have hsub : mroIn K C (.ref C) = some true := by
    unfold mroIn
    rw [hcl, Option.bind_some, if_neg (show ¬ (List.isEmpty (Value.ref C :: bm) = true) from Bool.false_ne_true)]
    simp
  have hsup : alongIn K "__init__" (((Value.ref C :: bm).dropWhile (· != .ref C)).drop 1) = some (some (.builtin "Exception.__init__")) := by
    have z := T.sup
    unfold ks_superIn at z
    rw [hcl] at z
    exact z
  refine ks_codeAny_call_defAt (fd := ksFn "__init__" qual (iA f p1 p2) (iB f msg q1 q2 q3 q4 q5 q6 q7 q8 q9 q10) (iS f) .none .none doc pm an (.ref cda) ct cc) (body := iB f msg q1 q2 q3 q4 q5 q6 q7 q8 q9 q10)
    (binds := [("self", .ref e), (f, v)]) hroom (X _ _ ho) rfl hlim (codeRec_of X hcd) rfl ?hbind ?hcell ?hloc (fun h₀ hn hk => ?_)
  case hbind => rcases T.fo with h | h | h <;> subst h <;> exact BindsTo.of_eq (by first | rfl | with_unfolding_all rfl)
  case hcell =>
    intro y hy
    simp only [iS, List.mem_cons, List.not_mem_nil, or_false] at hy
    rcases hy with rfl | rfl | rfl | rfl <;> exact fun h => nomatch h
  case hloc =>
    intro y hy
    simp only [List.mem_cons, List.not_mem_nil, or_false] at hy
    rcases T.fo with h | h | h <;> subst h <;> rcases hy with rfl | rfl <;> rfl
  have X₀ : K.In h₀ := X.keeps hk
  have hx₀ := hk _ _ hx
  have hC₀ := X₀ _ _ hC
  have hL : hp.objs.size ≠ e := Nat.ne_of_gt (Heap.lt_size hx)
  have heC : e ≠ C := fun z => by
    rw [z] at hx₀
    rw [hC₀] at hx₀
    have := congrArg (fun o => o.map (·.cls)) hx₀
    cases this
  have kE : ∀ {y : Str}, (ksEnv qual (iS f) hp.objs.size fI (.ref cda) cc).kindOf y = (iS f).names.lookup y := rfl
  have hks : (ksEnv qual (iS f) hp.objs.size fI (.ref cda) cc).kindOf "super" = some .globalImplicit := by rcases T.fo with h | h | h <;> subst h <;> rfl
  have hkc : (ksEnv qual (iS f) hp.objs.size fI (.ref cda) cc).kindOf "__class__" = some .free := by rcases T.fo with h | h | h <;> subst h <;> rfl
  have hkf : (ksEnv qual (iS f) hp.objs.size fI (.ref cda) cc).kindOf f = some .local := by rcases T.fo with h | h | h <;> subst h <;> rfl
  have hkse : (ksEnv qual (iS f) hp.objs.size fI (.ref cda) cc).kindOf "self" = some .local := rfl
  have hvf : ([((PySem.Str.ofString "self"), Value.ref e), (f, v)] : List (Str × Value)).reverse.lookup f = some v := by rcases T.fo with h | h | h <;> subst h <;> rfl
  have hvs' : ([((PySem.Str.ofString "self"), Value.ref e), (f, v)] : List (Str × Value)).reverse.lookup (PySem.Str.ofString "self") = some (Value.ref e) := by rcases T.fo with h | h | h <;> subst h <;> rfl
  have hdb : (f == ("__debug__" : Str)) = false := by rcases T.fo with h | h | h <;> subst h <;> decide
  show PySem.wpAt _ _ _ (execs (iB f msg q1 q2 q3 q4 q5 q6 q7 q8 q9 q10) (ksEnv qual (iS f) hp.objs.size fI (.ref cda) cc)) _ _ _
  refine ks_wpAt_execs_cons (ks_wpAt_Expr_any (ks_wpAt_MethodCall (pl := do return (← importBound (.Call (.Name "super" q1) [] [] q2) (ksEnv qual (iS f) hp.objs.size fI (.ref cda) cc)).getD true) ?_ ?he))
  case he =>
    rw [arm_eval_Call]
    have hpos : methodCallPos true (.Call (.Name "super" q1) [] [] q2) (ksEnv qual (iS f) hp.objs.size fI (.ref cda) cc) q3 q5 = pure q5 := by unfold methodCallPos; simp [hline]
    have hm : ∀ ov as, methodCallForm ([Expr.Constant (.str msg) 0 q4].length + ([] : List Keyword).length) as [] = true → methodCall (.Call (.Name "super" q1) [] [] q2) "__init__" q3 q5 (ksEnv qual (iS f) hp.objs.size fI (.ref cda) cc) ov ([Expr.Constant (.str msg) 0 q4].length + ([] : List Keyword).length) as [] =
        (do let (f, first) ← holding [ov] (getMethod ov "__init__" (do return (← importBound (.Call (.Name "super" q1) [] [] q2) (ksEnv qual (iS f) hp.objs.size fI (.ref cda) cc)).getD true)); callWith q5 f first as []) := by
      intro ov as hf
      unfold methodCall
      rw [hf, hpos]
      rfl
    refine bind_congr fun ov => bind_congr fun _ => hm ov _ rfl
  refine ks_wpAt_super_base (env := ksEnv qual (iS f) hp.objs.size fI (.ref cda) cc) hks hkc (by decide) rfl (X₀ _ _ ho) rfl rfl rfl (X₀ _ _ hcode) rfl hvs hfile T.htop ?_
  refine ks_loadName_global rfl hks (loadGlobal_builtin (env := ksEnv qual (iS f) hp.objs.size fI (.ref cda) cc) (G.keeps hk) T.nsu (hB.keeps hk) ((hmb _ (by decide)).trans (by first | rfl | kernel_rfl)) ⟨rfl, ?_⟩)
  refine wpAny_loadName_free rfl hkc rfl ⟨_, X₀ _ _ hcell, rfl⟩ ?_
  refine wpAny_loadName_local rfl hkse hn hvs' ?_
  refine ks_wpAny_isType_cls hC₀ rfl ⟨rfl, ?_⟩
  refine ks_wpAny_call_super hC₀ rfl hx₀ rfl (fun c z => nomatch z) (looks_mroIn X₀ hsub) (fun h₁ e₁ k₁ => ?_)
  have X₁ : K.In h₁ := X₀.keeps k₁
  have hx₁ := k₁ _ _ hx₀
  have hin : W.Looks (model prog w) h₁ (isInstance (.ref e) (.type "Exception")) true := (show W.InstAt h₁ e (excO C t0) C none from ⟨hx₁, rfl, rfl, trivial⟩).type.andThen (looks_subIn X₁ T.eX)
  refine PySem.ESX.getMethod_super e₁ (looks_opaque X₁ T.opq) ((looks_clsIn X₁ hcl).andThen .now) rfl X₁ hsup heC (by decide) hin ?_
  refine PySem.ESX.callWith_bound (x := e) ?_
  have k₂ : ∀ b o, h₁.get? b = some o → (h₁.push (PySem.ESX.bw e)).get? b = some o := fun b o z => Heap.get?_push_of_some _ z
  refine PyProof.Rows.spliced_more ?_
  refine Calls.Constant_str ?_
  refine Calls.spliced_nil ⟨Heap.get?_push_at rfl rfl, ?_⟩
  refine PySem.ESX.call_bw (C := C) (k₂ _ _ (k₁ _ _ hC₀)) (k₂ _ _ hx₁) (Heap.get?_push_at rfl rfl) (one_size _) (fun h₃ t1 k₃ hx₃ => ?_)
  have kk : ∀ b o, b ≠ e → h₀.get? b = some o → h₃.get? b = some o := fun b o hb z => k₃ b o hb (k₂ _ _ (k₁ _ _ z))
  have X₃ : K.In h₃ := fun a o z => kk a o (fun y => by rw [y, hnx] at z; cases z) (X₀ a o z)
  have hn₃ : h₃.Ns hp.objs.size (fun y => ([((PySem.Str.ofString "self"), Value.ref e), (f, v)] : List (Str × Value)).reverse.lookup y) := hn.at (fun o z => kk _ o hL z)
  refine wpAt_of_wpAny (wpAny_execs_cons (plainObj_wpAny_Assign_Attribute ?_))
  refine PySem.ESX.ldL hn₃ hvf ?_ rfl hkf hdb
  refine PySem.ESX.ldL hn₃ hvs' ?_ rfl hkse
  refine set_plain X₃ (ox := excO C t1) (od := none) ⟨hx₃, rfl, rfl, trivial⟩ T.sa ?_
  refine osa_new X₃ hx₃ T (fun h₄ tk₄ dx k₄ dn dne hx₄ hn₄ => ?_)
  refine wpAny_execs_nil (hq h₄ tk₄ dx ⟨fun b o hb z => k₄ b o hb (kk b o hb (hk b o z)), ⟨t1, hx₄⟩, ?_, dne, hn₄⟩)
  exact Nat.le_of_lt (Nat.lt_of_lt_of_le hn₃.lt dn)
/-- a made error -/
structure OwnMade (h h' : Heap) (f : Str) (e C d : Addr) (v : Value) : Prop where
  keep : ∀ b o, h.get? b = some o → h'.get? b = some o
  new : h.objs.size ≤ e
  obj : ∃ oe vs, h'.get? e = some oe ∧ oe.cls = .ref C ∧ oe.dict = some d ∧ oe.data = .fields vs ∧ vs[1]? = some .none
  dbig : h.objs.size ≤ d
  dne : d ≠ e
  ns : h'.Ns1 d (fun y => if y = f then some v else none)
theorem err_made (T : ErrTxt prog K mg x C fI f) {v : Value} (X : K.In hp) (G : hp.Ns mainGlobals mg) (B : ∃ mb, hp.Ns builtinsNs mb ∧ ∀ y : Str, y ≠ "__name__" → mb y = bootBuiltins y) (hlim : hp.NoLimit) (hroom : A.depth + 1 < recursionLimit)
    (hq : ∀ h' tk e dx, OwnMade hp h' f e C dx v → R (.ok (.ret (.ref e))) ⟨h', g, d, tk, os⟩) : codeAny (model prog w) A (.call (.ref C) ⟨[v], []⟩) R ⟨hp, g, d, t, os⟩ := by
  obtain ⟨nm, q, N, bs, bm, sn, sub, ab, col, dd, k0, k1, k2, k3, k5, hC, hbm⟩ := T.cls
  have k : ∀ b o, hp.get? b = some o → ((hp.push (kdv_tup [v])).push (excO C hp.objs.size)).get? b = some o := fun b o e => Heap.get?_push_of_some _ (Heap.get?_push_of_some _ e)
  have hget : ((hp.push (kdv_tup [v])).push (excO C hp.objs.size)).get? (hp.objs.size + 1) = some (excO C hp.objs.size) := by heap_get
  refine call_own F.excBase_Exception (fun Y => excTail_contains Y bm hbm) (X _ _ hC) (looks_findIn X T.iC) (fun self => bind_fn X self T.tC) (one_size v) ?_
  obtain ⟨mb, hB, hmb⟩ := B
  have hnx : K.lookup (hp.objs.size + 1) = none := by
    cases e : K.lookup (hp.objs.size + 1) with
    | none => rfl
    | some o =>
      have z : hp.get? (hp.objs.size + 1) = some o := X _ _ e
      exact absurd (Nat.lt_of_succ_lt (Heap.lt_size z)) (Nat.lt_irrefl _)
  refine err_init T (X.keeps k) (G.keeps k) ⟨mb, hB.keeps k, hmb⟩ (hlim.keeps k) hget hnx ?_ fun h' tk' dx ⟨k', ⟨t1, hx⟩, dn, dne, hns⟩ => ?_
  · show A.depth + 1 < recursionLimit
    exact hroom
  · have old : ∀ b o, hp.get? b = some o → h'.get? b = some o := fun b o e => k' b o (Nat.ne_of_lt (Nat.lt_succ_of_lt (Heap.lt_size e))) (k b o e)
    have z : hp.objs.size + 1 + 1 ≤ dx := by
      first
        | (simpa only [Heap.size_push] using dn)
        | exact dn
        | (have q := dn; rw [Heap.size_push, Heap.size_push] at q; exact q)
    exact ⟨rfl, hq h' tk' (hp.objs.size + 1) dx ⟨old, Nat.le_succ _, ⟨_, _, hx, rfl, rfl, rfl, rfl⟩, Nat.le_trans (Nat.le_trans (Nat.le_succ _) (Nat.le_succ _)) z, dne, hns⟩⟩
end
end Nb.Er

namespace Nb
open PySem PySem.Spec PyProof.Rows L2
theorem relO_one {v : V} {v' : Value} {g : Str} (r : RelV v v') (f : Str) : RelO (List.lookup f [(g, v)]) (if f = g then some v' else none) := by
  by_cases hw : f = g
  · subst hw
    rw [if_pos rfl]
    have q : List.lookup f [(f, v)] = some v := by simp [List.lookup]
    rw [q]
    exact r
  · rw [if_neg hw]
    have qw : (f == g) = false := by simpa using hw
    have q2 : List.lookup f [(g, v)] = none := by simp [List.lookup, qw]
    rw [q2]
    trivial
section
variable {X : Cx} {C fI : Addr}
theorem pmk_err {x f : Str} {a : Expr} {ta : TA} {p pos : Pos} {k : Nat} (T : Er.ErrTxt X.prog X.K X.mg x C fI f) (hr : Room k X.A) (ha : PA X [a] ta) (hg : Gl X x) (hdb : (x == ("__debug__" : Str)) = false) (hns : ∀ y q, a ≠ .Starred y q) :
    PMk X (.Call (.Name x p) [a] [] pos) (fun σ H Q => ta σ H fun vs H1 => ∃ v, vs = [v] ∧ ∀ dd, H1 dd = none → Q (.ref C) (some dd) (upd H1 dd (.xd [(f, v)]))) := by
  intro pins s σ H Q I h
  have he : starEach (a :: []) X.env = (false, eval a X.env) :: starEach [] X.env := by
    cases a <;> first | rfl | exact absurd rfl (hns _ _)
  refine wpAny_Call_Name_kw (ld_glob I hg T.gC ?_ hdb)
  refine PySem.W.callWith_K (h₀ := X.base) I.ok.mod.kin T.kC (thn (ha.run pos pins s σ H _ I h) fun us s1 hh => ?_) he rfl
  obtain ⟨vs, H1, I1, r1, v, ev, q1⟩ := hh
  subst ev
  refine ⟨I1.kIn, ?_⟩
  cases r1 with
  | cons rv rn =>
    rename_i v' us'
    cases rn
    show wpAny _ _ (call (.ref C) [v']) _ _ _
    have hlim := I1.nolimit
    have hG := I1.mod.glob.keeps I1.bk
    obtain ⟨mb, hB1, hB2⟩ := I1.mod.blt
    have hB : ∃ mb, s1.heap.Ns builtinsNs mb ∧ ∀ y : Str, y ≠ "__name__" → mb y = bootBuiltins y := ⟨mb, hB1.keeps I1.bk, hB2⟩
    obtain ⟨hp, g, dr, tk, os⟩ := s1
    refine wpAny_call (Er.err_made T I1.kIn hG hB hlim (by have := hr.dp; omega) fun h' tk' e d M => ?_)
    show MkP X pins σ Q (.ref e) ⟨h', g, dr, tk', os⟩
    obtain ⟨oe, fv, hoe, hc, hd, hdat, h1⟩ := M.obj
    have hns := M.ns
    obtain ⟨G', g1, g2⟩ := restrict h' fun b => decide (b ≠ e)
    have gk : ∀ b, b ≠ e → G'.get? b = h'.get? b := fun b hb => g1 b (decide_eq_true hb)
    have ge : G'.get? e = none := g2 e (by simp)
    have old : ∀ b o, hp.get? b = some o → G'.get? b = some o := fun b o q => (gk b (Nat.ne_of_lt (Nat.lt_of_lt_of_le (Heap.lt_size q) M.new))).trans (M.keep b o q)
    have ob : ObjOk X.prog X.w (upd H1 d (.xd [(f, v)])) G' d (.xd [(f, v)]) :=
      ⟨_, hns.at (fun o q => (gk d M.dne).trans q), fun f => relO_one rv f⟩
    have J : Inv X pins σ (upd H1 d (.xd [(f, v)])) ⟨G', g, dr, tk', os⟩ := I1.laid (t' := tk') old M.dbig ob
    refine ⟨e, oe, fv, ⟨G', g, dr, tk', os⟩, _, .ref C, some d, rfl, J, fun b o q => ?_, ge, hoe, ⟨hc, hd⟩, hdat, h1, ?_, rfl, I1.bare, raises_own T.exC T.tyC, q1 d (I1.hok.fresh M.dbig)⟩
    · by_cases hb : b = e
      · have q' : G'.get? b = some o := q
        rw [hb, ge] at q'; cases q'
      · exact (gk b hb).symm.trans q
    · rw [upd_ne (Ne.symm M.dne)]
      exact I1.hok.fresh M.new
end
end Nb
end
section
set_option Elab.async false
set_option linter.all false
set_option maxRecDepth 100000
set_option maxHeartbeats 4000000
/-! NbF0: a program's defs by the evaluator, by fuel -/
namespace Nb
open PySem PySem.Spec PyProof.Rows L2

/-- one def: its name, its text, its slots, its parameters, its body -/
structure Df where
  nm : Str
  st : Stmt
  N : List Str
  ps : List Str
  ir : Ss
def Df.mc (d : Df) : Mc := ⟨defScope d.st, d.N, true, fun _ => true⟩
def scopeB (N P : List Str) (sc : Scope) : Bool := (match sc.kind with | .function => true | _ => false) && !sc.isCoroutine && !sc.isGenerator && decide N.Nodup && decide (N.take P.length = P) && P.all (locB sc) && sc.names.all (fun y => match y.2 with | .free => false | _ => true)
theorem scopeB_ok {N P : List Str} {sc : Scope} (h : scopeB N P sc = true) : FnScope N P sc := by
  obtain ⟨h, h7⟩ := b2 h
  obtain ⟨h, h6⟩ := b2 h
  obtain ⟨h, h5⟩ := b2 h
  obtain ⟨h, h4⟩ := b2 h
  obtain ⟨h, h3⟩ := b2 h
  obtain ⟨h1, h2⟩ := b2 h
  refine ⟨?_, by simpa using h2, by simpa using h3, of_decide_eq_true h4, of_decide_eq_true h5, fun x hx => ?_, fun y hy => ?_⟩
  · split at h1
    · assumption
    · cases h1
  · have q := List.all_eq_true.mp h6 x hx
    unfold locB at q
    split at q <;> first | (exact .inl (by assumption)) | (exact .inr (by assumption)) | cases q
  · have q := List.all_eq_true.mp h7 y hy
    intro e
    rw [e] at q
    cases q
def Df.okB (d : Df) : Bool := matSs d.mc d.ir (defBody d.st) && scopeB d.N d.ps (defScope d.st)
def Df.env (d : Df) (ds : List D) : Enw := ds.map .va ++ List.replicate (d.N.length - ds.length) .no
def outR : Out → Res D
  | .nx _ st => .ok .non st
  | .rt d st => .ok d st
  | .ex c fs _ st => .exc c fs st
  | _ => .bad
def findF (ds : List Df) (f : Str) : Option Df := ds.find? fun d => decide (d.nm = f)
def clN (T : Tb) (defs : List Df) : Nat → Cl
  | 0 => fun _ _ _ => .bad
  | n + 1 => fun f ds st => match findF defs f with
    | some d => outR (exss T (clN T defs n) d.ir (d.env ds) st)
    | none => .bad
/-- what the module's top has left -/
structure Txt (P : Program) (K : PySem.W.Frag) (mg : Str → Option Value) (T : Tb) (defs : List Df) : Prop where
  fn : ∀ f d, findF defs f = some d → ∃ fa fd, mg f = some (.ref fa) ∧ FunD K d.nm d.nm (defArgs d.st) (defBody d.st) (defScope d.st) [] [] fa fd ∧ Binds K fd d.ps [] ∧ ∀ n ks p, T.kwp f n ks = some p → KB K fd d.ps n ks p
  ok : ∀ f d, findF defs f = some d → d.okB = true
  fps : ∀ f ps, T.fps f = some ps → ∃ d, findF defs f = some d ∧ d.ps = ps
  blt : ∀ x ∈ bltNames, mg x = none
  con : ∀ x d, T.g x = some d → ∃ v u, mg x = some u ∧ RelV v u ∧ ∀ F R, Rel K F R d v
  gti : ∀ x ns, T.gt x = some ns → ∃ a o, mg x = some (.ref a) ∧ (∀ H, SqT K H a (ns.map V.int)) ∧ K.lookup a = some o ∧ o.cls = .type "tuple" ∧ o.dict = none
  err : ∀ c fs, T.fld c = some fs → ∃ fI f, fs = [f] ∧ Er.ErrTxt P K mg c (gAt K c) fI f
  exn : ∀ c c', T.hn c = true → T.hn c' = true → mg c' = some (.ref (gAt K c')) ∧ PySem.W.exmOne K (.ref (gAt K c)) (.ref (gAt K c')) = some (T.sub c c')
  xfc : ∀ c f, fieldB T c f = true → XfC K (gAt K c) ∧ PySem.W.findIn K (.ref (gAt K c)) f = some none

section
variable {P : Program} {w : World} {K : PySem.W.Frag} {mg : Str → Option Value} {base : Heap} {T : Tb} {defs : List Df}
/-- a def by its body, where no repr is running -/
theorem FnG.of {name qual : Str} {params : Arguments} {body : List Stmt} {scope : Scope} {f : Addr} {fd : FuncData} {N ps : List Str} {k : Nat} {sp : Sp}
    (F : FunD K name qual params body scope [] [] f fd) (S : FnScope N ps scope) (len : ∀ vs H Q E, sp vs H Q E → vs.length = ps.length)
    (hbody : ∀ (cdv : Value) (A : Around) (outer : List Env) (s : Shared) (H : Hp) (vs : List V) (Q : VK) (E : XK), Room k (A.deeper (envOfC qual scope s.heap.objs.size f cdv)) → A.guards = some [] → sp vs H Q E →
      ∃ t, PSs (cxOf (L2.CX P w) P w K mg base N qual scope f cdv A outer s H E) body t ∧ t { nx := fun _ H' => Q .non H', rt := Q } (L2.start N vs) H) :
    FnG P w K mg base (k + 1) f fd ps sp := by
  obtain ⟨oc, od, dV, kV, doc, pm, an, cdv, ct, osl, rfl, lk, hcd, hD, hK⟩ := F.ex
  refine ⟨len, fun A outer s H args us vs Q E hr hgd e0 hb r hsp => ?_⟩
  have hl := len _ _ _ _ hsp
  have KX : K.In s.heap := e0.mod.kin.keeps fun b o e => (e0.bs b o e).1
  have lim : s.heap.NoLimit := e0.mod.nolimit.keeps fun b o e => (e0.bs b o e).1
  refine codeAny_call_function hr.depth (KX _ _ lk) rfl S.co S.gen rfl (PySem.W.codeRec_of KX hcd) (hb _ _ _ _ ?_)
  refine wpAny_newFunctionEnv_cells S.kind (fun ⟨n, v⟩ hy => ?_) fun env he s1 x => ?_
  · exact (S.par n (List.of_mem_zip hy).1).imp id fun q => ⟨q, PySem.W.cellsFrom_some _ _ _ (.inl q)⟩
  subst he
  refine ⟨lim.keeps x.toInCall.keep, codeAny_func ?_⟩
  obtain ⟨t, ht, hq⟩ := hbody cdv A outer s H vs Q E (hr.deeper _) hgd hsp
  have I : Inv (cxOf (L2.CX P w) P w K mg base N qual scope f cdv A outer s H E) [] (L2.start N vs) H s1 := inv_start S hr.hd e0 hl r x
  refine wpAny_mono (ht.run [] s1 (L2.start N vs) H _ I hq) (fun fl s' hs => ?_) fun e s' hs => hs
  cases fl with
  | ret u => obtain ⟨v, σ', H', J, rv, q⟩ := hs; exact ⟨v, H', J.os, J.bare, J.base, J.hok, rv, q⟩
  | next => obtain ⟨σ', H', J, q⟩ := hs; exact ⟨V.non, H', J.os, J.bare, J.base, J.hok, rfl, q⟩
  | brk => obtain ⟨_, _, _, q⟩ := hs; exact q.elim
  | cont => obtain ⟨_, _, _, q⟩ := hs; exact q.elim

theorem start_env {F : Hp} {R : List Addr} {H : Hp} {N : List Str} {ds : List D} {vs : List V} (r : Rels K F R ds vs) (hn : ds.length ≤ N.length) :
    EnvOk K (fun _ _ _ => False) F R H (ds.map Sl.va ++ List.replicate (N.length - ds.length) .no) (L2.start N vs) := by
  have hl := r.len
  have noow : ∀ (i : Nat) d, (ds.map Sl.va ++ List.replicate (N.length - ds.length) .no)[i]? ≠ some (.ow d) := fun i d h => by
    have := List.mem_of_getElem? h
    rcases List.mem_append.mp this with h | h
    · obtain ⟨x, _, e⟩ := List.mem_map.mp h; cases e
    · have := List.eq_of_mem_replicate h; cases this
  refine ⟨by unfold L2.start; simp [hl], fun i s o h1 h2 => ?_, fun i j a d e h1 _ _ _ => absurd h1 (noow i d)⟩
  by_cases hi : i < ds.length
  · rw [List.getElem?_append_left (by simpa using hi), List.getElem?_map] at h1
    unfold L2.start at h2
    rw [List.getElem?_append_left (by rw [List.length_map, ← hl]; exact hi), List.getElem?_map] at h2
    cases hd : ds[i]? with
    | none => rw [hd] at h1; cases h1
    | some d =>
      rw [hd] at h1; cases h1
      obtain ⟨v, e1, e2⟩ := r.get hd
      rw [e1] at h2; cases h2
      exact ⟨v, rfl, e2⟩
  · rw [List.getElem?_append_right (by simpa using hi)] at h1
    have := List.eq_of_mem_replicate (List.mem_of_getElem? h1)
    subst this
    trivial

/-- every def keeps its promise -/
theorem fnG_all (x : Txt P K mg T defs) : ∀ (n : Nat) (f : Str) (d : Df), findF defs f = some d → ∀ fa fd, mg f = some (.ref fa) →
    FunD K d.nm d.nm (defArgs d.st) (defBody d.st) (defScope d.st) [] [] fa fd → FnG P w K mg base n fa fd d.ps (spD K d.ps.length (clN T defs n f)) := by
  have lenD : ∀ {n : Nat} {c : List D → Sto → Res D} vs H Q E, spD K n c vs H Q E → vs.length = n := fun vs H Q E ⟨F, R, st, ds, h1, _, h2, _⟩ => by rw [← h2.len]; exact h1
  intro n
  induction n with
  | zero =>
    intro f d hf fa fd hm F
    refine ⟨lenD, fun A outer s H args us vs Q E hr hgd e0 hb r hsp => ?_⟩
    obtain ⟨F', R, st, ds, _, _, _, q⟩ := hsp
    exact q.elim
  | succ n ih =>
    intro f d hf fa fd hm F
    obtain ⟨hmat, hsc⟩ := b2 (x.ok f d hf)
    have S := scopeB_ok hsc
    have hpl : d.ps.length ≤ d.N.length := by have := congrArg List.length S.pre; rw [List.length_take] at this; omega
    refine FnG.of F S lenD fun cdv A outer s H vs Q E hr hgd hsp => ?_
    have C : CtxS T (clN T defs n) (cxOf (L2.CX P w) P w K mg base d.N d.nm (defScope d.st) fa cdv A outer s H E) d.mc (fun _ _ _ => False) (fun cls dd _ H' => E cls dd H') := {
      sc := rfl
      N := rfl
      nd := S.nd
      calm := fun _ => rfl
      guards := hgd
      units := by have := hr.un; show (A.deeper _).units + 200 < cLine; omega
      fn := fun _ _ => rfl
      tk := takes_of rfl rfl rfl rfl
      blt := x.blt
      con := x.con
      gti := x.gti
      xf := fun h => absurd (show true = false from h) (by decide)
      cls := fun _ g ps hg => by
        obtain ⟨d', hd', rfl⟩ := x.fps g ps hg
        obtain ⟨ga, gd, h1, h2, h3, h4⟩ := x.fn g d' hd'
        exact ⟨n, ga, gd, h1, h2.kp, hr, ih g d' hd' ga gd h1 h2, h3, h4⟩
      pas := passes_of rfl
      rai := fun c fs hc _ hg pn xe {e p pos t} ha hns => by
        obtain ⟨fI, f', rfl, ht⟩ := x.err c fs hc
        have hgl : Gl ((cxOf (L2.CX P w) P w K mg base d.N d.nm (defScope d.st) fa cdv A outer s H E).tr pn xe) c ∧ (c == ("__debug__" : Str)) = false := by
          obtain ⟨h1, h2⟩ := b2 hg
          refine ⟨?_, notDbg_1 h2⟩
          show (defScope d.st).names.lookup c = _
          have h1 : (match (defScope d.st).names.lookup c with
            | some .globalImplicit => true
            | _ => false) = true := h1
          split at h1 <;> first | assumption | cases h1
        intro pins s1 σ1 H1 Q1 I1 h1
        refine pmk_err (X := (cxOf (L2.CX P w) P w K mg base d.N d.nm (defScope d.st) fa cdv A outer s H E).tr pn xe) ht (hr.mono (Nat.zero_le n)) ha hgl.1 hgl.2 hns pins s1 σ1 H1 Q1 I1 ?_
        refine cast (congrArg (t σ1 H1) (funext fun vs => funext fun H2 => propext ⟨fun ⟨v, f, e1, e2, e3⟩ => ?_, fun ⟨v, e1, e3⟩ => ⟨v, f', e1, rfl, e3⟩⟩)) h1
        cases e2
        exact ⟨v, e1, e3⟩
      stk := rfl
      frm := rfl
      ex0 := fun _ _ _ _ h => h
      exn := x.exn
      xfc := x.xfc }
    refine ⟨_, (sndSs d.ir).s C hmat, ?_⟩
    obtain ⟨F', R, st, ds, h1, so, h2, q⟩ := hsp
    refine ⟨⟨F', R, H, F', R⟩, F', R, d.env ds, st, ⟨so, start_env h2 (by rw [h1]; exact hpl), .refl, ⟨Same.refl _, List.prefix_rfl⟩, fun i e a h3 _ => ?_⟩, ?_⟩
    · have := List.mem_of_getElem? h3
      rcases List.mem_append.mp this with h | h
      · obtain ⟨x, _, e⟩ := List.mem_map.mp h; cases e
      · have := List.eq_of_mem_replicate h; cases this
    · unfold clN at q
      simp only [hf] at q
      cases ho : exss T (clN T defs n) d.ir (d.env ds) st with
      | nx e s => rw [ho] at q; exact fun F2 R2 H2 σ2 sm => q F2 R2 H2 .non sm.g sm.so (by unfold Rel; rfl)
      | rt v s => rw [ho] at q; exact fun F2 R2 H2 v2 g2 so2 r2 => q F2 R2 H2 v2 g2 so2 r2
      | ex c fs e s => rw [ho] at q; exact fun F2 R2 H2 σ2 d2 sm xf => q F2 R2 H2 d2 sm.g sm.so xf
      | bk e s => rw [ho] at q; exact q.elim
      | ct e s => rw [ho] at q; exact q.elim
      | bad => rw [ho] at q; exact q.elim
end
end Nb
end
section
set_option Elab.async false
set_option linter.all false
set_option maxRecDepth 100000
set_option maxHeartbeats 1000000
namespace Nb
open PySem PySem.Spec PyProof.Rows L2
theorem lookup_zip : ∀ {ps : List Str} {us : List Value} {n : Str}, n ∈ ps → us.length = ps.length → ((ps.zip us).lookup n).isSome = true
  | [], _, _, h, _ => absurd h (by simp)
  | p :: ps, [], _, _, h => by simp at h
  | p :: ps, u :: us, n, h, e => by
    simp only [List.zip_cons_cons, List.lookup_cons]
    cases q : (n == p) with
    | true => rfl
    | false =>
      rcases List.mem_cons.mp h with rfl | h
      · simp at q
      · exact lookup_zip h (by simpa using e)
theorem fmap_zip : ∀ {ps : List Str} {us : List Value}, ps.Nodup → us.length = ps.length → ps.filterMap (fun n => ((ps.zip us).lookup n).map (fun x => (n, x))) = ps.zip us
  | [], us, _, e => rfl
  | p :: ps, [], _, h => by simp at h
  | p :: ps, u :: us, nd, e => by
    have nd' := List.nodup_cons.mp nd
    rw [List.filterMap_cons]
    simp only [List.zip_cons_cons, List.lookup_cons, beq_self_eq_true, Option.map_some]
    congr 1
    have key : ∀ (qs : List Str), p ∉ qs → qs.filterMap (fun n => ((match n == p with | true => some u | false => (ps.zip us).lookup n)).map fun x => (n, x)) = qs.filterMap fun n => ((ps.zip us).lookup n).map fun x => (n, x) := by
      intro qs
      induction qs with
      | nil => intro _; rfl
      | cons q qs ih =>
        intro hq
        have hne : (q == p) = false := by
          cases z : (q == p) with
          | false => rfl
          | true => exact absurd (List.mem_cons.mpr (.inl (beq_iff_eq.mp z).symm)) hq
        rw [List.filterMap_cons, List.filterMap_cons, hne, ih fun h => hq (List.mem_cons_of_mem _ h)]
    exact (key ps nd'.1).trans (fmap_zip nd'.2 (by simpa using e))
def paramsB (a : Arguments) (ps : List Str) : Bool := a.posonlyargs.isEmpty && a.vararg.isNone && a.kwonlyargs.isEmpty && a.kwarg.isNone && decide (a.args.map (·.arg) = ps) && decide ps.Nodup
theorem bind_gen {x qual : Str} {params : Arguments} {body : List Stmt} {scope : Scope} {kV doc pm cdv ct : Value} {an : Option Addr} {ps : List Str} (h : paramsB params ps = true) {us : List Value} (hl : us.length = ps.length) :
    bindArgs (PySem.W.fnOf x qual params body scope .none kV doc pm an cdv ct) ⟨us, []⟩ = pure (ps.zip us) := by
  obtain ⟨h, h6⟩ := b2 h
  obtain ⟨h, h5⟩ := b2 h
  obtain ⟨h, h4⟩ := b2 h
  obtain ⟨h, h3⟩ := b2 h
  obtain ⟨h1, h2⟩ := b2 h
  have a5 := of_decide_eq_true h5
  have a6 := of_decide_eq_true h6
  clear h h5 h6
  obtain ⟨po, ar, va, ko, kd, kw, df⟩ := params
  simp only [List.isEmpty_iff, Option.isNone_iff_eq_none] at h1 h2 h3 h4
  dsimp only at h1 h2 h3 h4 a5
  subst h1 h2 h3 h4
  have hm : ps.filter (fun n => ((ps.zip us).lookup n).isNone) = [] := by
    rw [List.filter_eq_nil_iff]
    intro n hn
    have := lookup_zip hn hl
    cases q : (ps.zip us).lookup n with
    | none => rw [q] at this; cases this
    | some v => simp
  have hg : ¬ (us.length > ps.length) := by omega
  unfold bindArgs
  dsimp only [PySem.W.fnOf]
  simp only [List.map_nil, List.nil_append, List.append_nil]
  rw [a5]
  simp only [List.forIn_nil, pure_bind, seqItems?, if_neg hg, Option.getD_none, List.drop_nil, List.length_nil, Nat.sub_zero, List.take_length, hm, List.isEmpty_nil, Bool.not_true, Bool.false_eq_true, if_false, List.drop_length, List.zip_nil_right, List.filterMap_nil]
  simp [hm, hg, fmap_zip a6 hl]
  rfl
end Nb
end
section
set_option Elab.async false
set_option linter.all false
set_option maxRecDepth 100000
set_option maxHeartbeats 2000000
/-! NbF1: a law's end -/
namespace Nb
open PySem PySem.Spec PyProof.Rows L2
theorem law_callG {P : Program} {w : World} {K : PySem.W.Frag} {mg mb : Str → Option Value} {k : Nat} {fa a : Addr} {fd : FuncData} {x : Str} {sp : Sp} {s₁ : Shared} {vs : List Value} {ns : List Int}
    (KX : K.In s₁.heap) (hns : s₁.heap.Ns mainGlobals mg) (hb : s₁.heap.Ns builtinsNs mb) (hbb : ∀ x : Str, x ≠ "__name__" → mb x = bootBuiltins x) (hlim : s₁.heap.NoLimit) (hg : s₁.gens = #[])
    (ha : s₁.heap.get? a = some { cls := .type "list", data := .seq vs.toArray }) (hi : IntsAre vs ns) (hl : ns.length ≤ sizeLine) (hr : Room k callerA)
    (F : ∀ base : Heap, K.In base → base.Ns mainGlobals mg → FnG P w K mg base k fa fd [x] sp) (hbind : ∀ (s : Shared) (u : Value), BindsTo s fd ⟨[u], []⟩ [(x, u)])
    (hsp : ∀ H : Hp, Only H → SqL K H a (ns.map V.int) → sp [.ref a] H (fun v _ => v = .bl true) fun _ _ _ => False) :
    codeAny (model P w) callerA (.call (.ref fa) ⟨[.ref a], []⟩) (fun r s' => r = .ok (.ret (.bool true)) ∧ OldK s₁.heap s'.heap ∧ s'.os = s₁.os ∧ AllBare s'.gens) s₁ := by
  have rv := vals_ints hi
  have lenV := hi.length
  -- from an abstract heap in which nothing but the script may be tracked
  have core : ∀ H : Hp, Only H → SqL K H a (ns.map V.int) → HOk P w H s₁.heap → (∀ b, H b ≠ none → b = a) → (H a ≠ none → K.lookup a = none) →
      codeAny (model P w) callerA (.call (.ref fa) ⟨[.ref a], []⟩) (fun r s' => r = .ok (.ret (.bool true)) ∧ OldK s₁.heap s'.heap ∧ s'.os = s₁.os ∧ AllBare s'.gens) s₁ := by
    intro H hO hS hok hA hK
    have base_of : ∀ {b : Addr} {o : Obj}, s₁.heap.get? b = some o → H b = none → (hidT s₁.heap H).get? b = some o := fun e n => hidT_get e n
    have noA : ∀ {b : Addr} {o : Obj} {es : Array DictEntry} {ep : Nat}, s₁.heap.get? b = some o → o.data = .dict es ep → H b = none := fun {b o es ep} e d => by
      cases q : H b with
      | none => rfl
      | some u =>
        have e' : b = a := hA b (by rw [q]; simp)
        subst e'
        rw [ha] at e; cases e
        have d' : Data.seq vs.toArray _ = Data.dict es ep := d
        cases d'
    have nsK : ∀ {b : Addr} {m : Str → Option Value}, s₁.heap.Ns b m → (hidT s₁.heap H).Ns b m := fun {b m} ⟨o, es, ep, e, d, r⟩ => ⟨o, es, ep, base_of e (noA e d), d, r⟩
    have hKb : K.In (hidT s₁.heap H) := fun b o e => base_of (KX b o e) (by
      cases q : H b with
      | none => rfl
      | some u =>
        have e' : b = a := hA b (by rw [q]; simp)
        subst e'
        rw [hK (by rw [q]; simp)] at e; cases e)
    have hM : Mod K mg (hidT s₁.heap H) := ⟨hKb, nsK hns, ⟨mb, nsK hb, hbb⟩, let ⟨mc, h1, h2⟩ := hlim; ⟨mc, nsK h1, h2⟩⟩
    have e0 : Env0 P w K mg (hidT s₁.heap H) callerA [] s₁ H := ⟨rfl, hM, fun b o e => of_hidT e, Nat.le_of_eq (hidT_size _ _), trivial, fun b hb => absurd (show b ∈ ([] : List Addr) from hb) (by simp), hok, .of_eq hg⟩
    refine codeAny_mono ((F _ hKb (nsK hns)).run callerA [] s₁ H ⟨[.ref a], []⟩ [.ref a] [.ref a] _ _ hr rfl e0 (hbind s₁ (.ref a)) (.cons rfl .nil) (hsp H hO hS)) fun r s' h => ?_
    cases r with
    | error e => exact (let ⟨_, _, _, _, _, _, _, _, _, _, _, _, q⟩ := h; q.elim)
    | ok fl =>
      cases fl with
      | next => exact False.elim h
      | brk => exact False.elim h
      | cont => exact False.elim h
      | ret u =>
        obtain ⟨v, H', os, bare, un, hok', r', q⟩ := h
        have q' : v = .bl true := q
        subst q'
        obtain rfl : u = Value.bool true := r'
        refine ⟨rfl, OldK.of_keep fun b o e => ?_, os, bare⟩
        cases q : H b with
        | none => exact un.keep b o e q (by intro z; exact absurd (show b ∈ ([] : List Addr) from z) (by simp)) (by simp)
        | some u =>
          rcases hO b with z | ⟨ob, xs, z⟩
          · rw [q] at z; cases z
          · have z2 := un.frzs b ob _ z
            obtain ⟨e1, _⟩ := hok b _ z
            obtain ⟨e2, _⟩ := hok' b _ z2
            rw [e] at e1; cases e1
            exact e2
  cases hk : K.lookup a with
  | some o =>
    -- the script is one of the module's own objects
    have e := KX a o hk
    rw [ha] at e
    cases e
    refine core (fun _ => none) (fun _ => .inl rfl) (.inr ⟨_, vs.toArray, _, hk, rfl, rfl, rfl, by rw [List.size_toArray, lenV]; exact hl, by simpa using rv⟩) (fun b u z => by have z' : (none : Option HO) = some u := z; cases z') (fun b z => absurd rfl z) fun z => absurd rfl z
  | none =>
    refine core (fun b => if b = a then some (.frz { cls := .type "list", data := .seq vs.toArray } (.lst (ns.map V.int))) else none) (fun b => ?_) (.inl (.inr ⟨{ cls := .type "list", data := .seq vs.toArray }, if_pos rfl⟩)) (fun b u z => ?_) (fun b z => ?_) fun _ => hk
    · by_cases hb : b = a
      · exact .inr ⟨_, _, if_pos hb⟩
      · exact .inl (if_neg hb)
    · by_cases hb : b = a
      · have z' := (if_pos hb).symm.trans z
        cases z'
        subst hb
        exact ⟨ha, by rw [List.length_map]; exact hl, vs, _, rv, ha⟩
      · have z' := (if_neg hb).symm.trans z
        cases z'
    · by_cases hb : b = a
      · exact hb
      · exact absurd (if_neg hb) z
theorem walk_ofG {l : PySem.W.OpenLaw} {n k : Nat} {q : Program} {loose : List Str} {XP : (Str → Option Value) → Heap → Prop} {YP : World → Heap → Prop} {d : DefRec} {x : Str}
    (hn : l.most = some n) (hn2 : n ≤ sizeLine) (hdf : d.params.defaults = []) (hr : Room k callerA)
    (F : ∀ (w : World) (mg : Str → Option Value) (fa : Addr) (h : Heap), YP w h → h.Ns mainGlobals mg → mg d.name = some (.ref fa) →
      ∃ (K : PySem.W.Frag) (fd : FuncData) (sp : Sp), K.In h ∧ (∀ (s : Shared) (u : Value), BindsTo s fd ⟨[u], []⟩ [(x, u)]) ∧
        (∀ (H : Hp) (a : Addr) (ns : List Int), ns.length ≤ n → Only H → SqL K H a (ns.map V.int) → sp [.ref a] H (fun v _ => v = .bl true) fun _ _ _ => False) ∧
        ∀ base : Heap, K.In base → base.Ns mainGlobals mg → FnG l.prog w K mg base k fa fd [x] sp) :
    PySem.W.WalkO q loose XP YP l.row.toRowW d [] (fun f vs => PySem.call f vs) := by
  refine Att.attach_call hn hdf fun w s₀ s₁ mg mb fa o pm cd doc a vs ns G Y ho hd hcd hmg hobj hints hlen hg => ?_
  obtain ⟨K, fd, sp, KX, hb, hsp, hF⟩ := F w mg fa _ Y G.T.g hmg
  exact law_callG KX G.T.g G.T.b G.T.builtins G.T.nolimit hg hobj hints (Nat.le_trans hlen hn2) hr hF hb (fun H hO hS => hsp H a ns hlen hO hS)
end Nb
end
section
set_option Elab.async false
set_option linter.all false
set_option maxRecDepth 100000
set_option maxHeartbeats 4000000
/-! NbF2: what is read off the heap behind the top -/
namespace Nb
open PySem PySem.Spec PyProof.Rows L2

/-! ### constants -/
mutual
def conB (K : PySem.W.Frag) : D → Value → Bool
  | .non, .none => true
  | .bl b, .bool c => b == c
  | .int i, .int j _ => decide (i = j)
  | .str x, .str y _ => decide (x = y)
  | .ctup ds, .ref a => (match K.lookup a with
    | some ⟨.type c, _, .seq its _, _⟩ => decide (c = "tuple") && (decide (its.size ≤ sizeLine) && conBs K ds its.toList)
    | _ => false)
  | .clst ds, .ref a => (match K.lookup a with
    | some ⟨.type c, none, .seq its _, _⟩ => decide (c = "list") && (decide (its.size ≤ sizeLine) && conBs K ds its.toList)
    | _ => false)
  | _, _ => false
def conBs (K : PySem.W.Frag) : List D → List Value → Bool
  | [], [] => true
  | d :: ds, u :: us => conB K d u && conBs K ds us
  | _, _ => false
end
section
variable {K : PySem.W.Frag}
mutual
theorem conB_ok : ∀ {d : D} {u : Value}, conB K d u = true → ∃ v, RelV v u ∧ ∀ F R, Rel K F R d v
  | .non, u, h => by
    cases u <;> first | (unfold conB at h; cases h; done) | exact ⟨.non, rfl, fun F R => by unfold Rel; rfl⟩
  | .bl b, u, h => by
    cases u <;> first | (unfold conB at h; cases h; done) | skip
    unfold conB at h
    have := eq_of_beq h
    subst this
    exact ⟨.bl b, rfl, fun F R => by unfold Rel; rfl⟩
  | .int i, u, h => by
    cases u <;> first | (unfold conB at h; cases h; done) | skip
    unfold conB at h
    have := of_decide_eq_true h
    subst this
    exact ⟨.int i, ⟨_, rfl⟩, fun F R => by unfold Rel; rfl⟩
  | .str i, u, h => by
    cases u <;> first | (unfold conB at h; cases h; done) | skip
    unfold conB at h
    have := of_decide_eq_true h
    subst this
    exact ⟨.str i, ⟨_, rfl⟩, fun F R => by unfold Rel; rfl⟩
  | .ctup ds, u, h => by
    cases u <;> first | (unfold conB at h; cases h; done) | skip
    rename_i a
    unfold conB at h
    cases q : K.lookup a with
    | none => rw [q] at h; cases h
    | some o =>
      obtain ⟨oc, od, dt, osl⟩ := o
      rw [q] at h
      cases oc <;> first | (cases dt <;> (cases h; done)) | skip
      cases dt <;> first | (cases h; done) | skip
      obtain ⟨h1, h2⟩ := b2 h
      obtain ⟨h3, h4⟩ := b2 h2
      obtain ⟨vs, e, r⟩ := conBs_ok h4
      exact ⟨.ref a, rfl, fun F R => by
        unfold Rel
        exact ⟨a, vs, rfl, .inr ⟨_, _, _, q, congrArg Value.type (of_decide_eq_true h1), rfl, of_decide_eq_true h3, e⟩, r F R⟩⟩
  | .clst ds, u, h => by
    cases u <;> first | (unfold conB at h; cases h; done) | skip
    rename_i a
    unfold conB at h
    cases q : K.lookup a with
    | none => rw [q] at h; cases h
    | some o =>
      obtain ⟨oc, od, dt, osl⟩ := o
      rw [q] at h
      cases oc <;> cases od <;> first | (cases dt <;> (cases h; done)) | skip
      cases dt <;> first | (cases h; done) | skip
      obtain ⟨h1, h2⟩ := b2 h
      obtain ⟨h3, h4⟩ := b2 h2
      obtain ⟨vs, e, r⟩ := conBs_ok h4
      exact ⟨.ref a, rfl, fun F R => by
        unfold Rel
        exact ⟨a, vs, rfl, .inr ⟨_, _, _, q, congrArg Value.type (of_decide_eq_true h1), rfl, rfl, of_decide_eq_true h3, e⟩, r F R⟩⟩
  | .tup _, _, h => by unfold conB at h; cases h
  | .lst _, _, h => by unfold conB at h; cases h
  | .dk _ _, _, h => by unfold conB at h; cases h
  | .dt _ _, _, h => by unfold conB at h; cases h
  | .ins _ _ _, _, h => by unfold conB at h; cases h
  | .ref _, _, h => by unfold conB at h; cases h
theorem conBs_ok : ∀ {ds : List D} {us : List Value}, conBs K ds us = true → ∃ vs, Vals vs us ∧ ∀ F R, Rels K F R ds vs
  | [], [], _ => ⟨[], .nil, fun _ _ => Rels.nil⟩
  | [], _ :: _, h => by unfold conBs at h; cases h
  | _ :: _, [], h => by unfold conBs at h; cases h
  | d :: ds, u :: us, h => by
    unfold conBs at h
    obtain ⟨h1, h2⟩ := b2 h
    obtain ⟨v, e1, r1⟩ := conB_ok h1
    obtain ⟨vs, e2, r2⟩ := conBs_ok h2
    exact ⟨v :: vs, .cons e1 e2, fun F R => Rels.cons (r1 F R) (r2 F R)⟩
end
end
end Nb
end
section
set_option Elab.async false
set_option linter.all false
set_option maxRecDepth 100000
set_option maxHeartbeats 4000000
/-! NbF3: what is read of an own error's class -/
namespace Nb
open PySem PySem.Spec PyProof.Rows L2

def initA (f : Str) (a : Arguments) : Bool := match a with
  | ⟨[], [⟨s, none, _⟩, ⟨g, none, _⟩], none, [], [], none, []⟩ => decide (s = ("self" : Str)) && decide (g = f)
  | _ => false
def initB (f : Str) (b : FuncBody) : Bool := match b with
  | .stmts [.Expr (.Call (.Attribute (.Call (.Name s _) [] [] _) i q3) [.Constant (.str _) 0 _] [] q5) _, .Assign [.Attribute (.Name se _) g _] (.Name h _) _] =>
    (q3.endLine == q5.line) && decide (s = ("super" : Str)) && decide (i = ("__init__" : Str)) && decide (se = ("self" : Str)) && decide (g = f) && decide (h = f)
  | _ => false
theorem initA_ok {f : Str} {a : Arguments} (h : initA f a = true) : ∃ p1 p2, a = Er.iA f p1 p2 := by
  unfold initA at h
  split at h
  · obtain ⟨h1, h2⟩ := b2 h
    have h1 := of_decide_eq_true h1
    have h2 := of_decide_eq_true h2
    subst h1 h2
    exact ⟨_, _, rfl⟩
  · cases h
theorem initB_ok {f : Str} {b : FuncBody} (h : initB f b = true) : ∃ msg q1 q2 q3 q4 q5 q6 q7 q8 q9 q10, (q3.endLine == q5.line) = true ∧ b = .stmts (Er.iB f msg q1 q2 q3 q4 q5 q6 q7 q8 q9 q10) := by
  unfold initB at h
  split at h
  · obtain ⟨h, h6⟩ := b2 h
    obtain ⟨h, h5⟩ := b2 h
    obtain ⟨h, h4⟩ := b2 h
    obtain ⟨h, h3⟩ := b2 h
    obtain ⟨h1, h2⟩ := b2 h
    have h6 := of_decide_eq_true h6
    have h5 := of_decide_eq_true h5
    have h4 := of_decide_eq_true h4
    have h3 := of_decide_eq_true h3
    have h2 := of_decide_eq_true h2
    subst h6 h4 h3 h2
    subst h5
    exact ⟨_, _, _, _, _, _, _, _, _, _, _, h1, rfl⟩
  · cases h
def fokB (f : Str) : Bool := decide (f = ("at" : Str)) || decide (f = ("word" : Str)) || decide (f = ("name" : Str))
def clsB (K : PySem.W.Frag) (C : Addr) : Bool := match K.lookup C with
  | some ⟨.type t, _, .cls cd, sl⟩ => t == "type" && (match cd.mro, sl.toList with
    | .ref C' :: bm, [_, _, _, _, some (.builtin n), _] => C' == C && n == "Exception.__new__" && cd.hasDict && !cd.hasDel && PySem.W.excTail Er.bmE bm
    | _, _ => false)
  | _ => false
theorem clsB_ok {K : PySem.W.Frag} {C : Addr} (q : clsB K C = true) : ∃ nm q N bs bm sn sub ab col dd k0 k1 k2 k3 k5, K.lookup C = some (excClassObj nm q C N bs bm true sn sub ab col dd k0 k1 k2 k3 k5 "Exception.__new__") ∧ PySem.W.excTail Er.bmE bm = true := by
  unfold clsB at q
  split at q
  · rename_i t dd cd sl ho
    obtain ⟨ht, q2⟩ := b2 q
    clear q
    have ht' := eq_of_beq ht
    clear ht
    subst ht'
    split at q2
    · rename_i C' bm k0 k1 k2 k3 n k5 hm hs
      obtain ⟨r5, h5⟩ := b2 q2
      obtain ⟨r4, h4⟩ := b2 r5
      obtain ⟨r3, h3⟩ := b2 r4
      obtain ⟨h1, h2⟩ := b2 r3
      have g1 := eq_of_beq h1
      have g2 := eq_of_beq h2
      clear q2 r5 r4 r3 h1 h2
      subst g1 g2
      obtain ⟨nm, bs, mro, ns, qn, hd, sn, sub, ab, col, del⟩ := cd
      dsimp only at hm h3 h4
      subst hm
      subst h3
      have g4 : del = false := by simpa using h4
      clear h4
      subst g4
      have hsl : sl = #[k0, k1, k2, k3, some (.builtin "Exception.__new__"), k5] := by
        obtain ⟨l⟩ := sl
        simp only at hs
        rw [hs]
      subst hsl
      exact ⟨nm, qn, ns, bs, bm, sn, sub, ab, col, dd, k0, k1, k2, k3, k5, ho, h5⟩
    · cases q2
  · cases q
def codB (P : Program) (K : PySem.W.Frag) (cd : Value) : Bool := match cd with
  | .ref a => (match K.lookup a with
    | some ⟨_, _, .fields vs, _⟩ => (match (vs[2]? : Option Value) with
      | some (Value.str file _) => (P.main.file : Str) == file
      | _ => false)
    | _ => false)
  | _ => false
def celB (K : PySem.W.Frag) (C : Addr) (cl : List (Str × Addr)) : Bool := match cl with
  | [(x, c)] => decide (x = ("__class__" : Str)) && (match K.lookup c with
    | some ⟨_, _, .cell (some (.ref D)), _⟩ => decide (D = C)
    | _ => false)
  | _ => false
def iniB (P : Program) (K : PySem.W.Frag) (C fI : Addr) (f : Str) : Bool := match K.lookup fI with
  | some ⟨_, _, .func fd, _⟩ => decide (fd.name = ("__init__" : Str)) && initA f fd.params && initB f fd.body && decide (fd.scope = Er.iS f) && decide (fd.globals = mainGlobals) && decide (fd.defaults = .none) && decide (fd.kwdefaults = .none) && decide (fd.builtins = builtinsNs) &&
      PySem.W.codeIn K fd.code fd.qualname && codB P K fd.code && celB K C fd.closure
  | _ => false
theorem iniB_ok {P : Program} {K : PySem.W.Frag} {C fI : Addr} {f : Str} (h : iniB P K C fI f = true) :
    ∃ (oc : Value) (od : Option Addr) (qual msg : Str) (doc pm : Value) (an : Option Addr) (ct : Value) (cda cc : Addr) (osl : Array (Option Value)) (p1 p2 q1 q2 q3 q4 q5 q6 q7 q8 q9 q10 : Pos) (vs : Array Value) (file : Str) (tf : Tok) (ccl cl : Value) (cdd cld : Option Addr) (ccs csl : Array (Option Value)), (q3.endLine == q5.line) = true ∧
    K.lookup fI = some ⟨oc, od, .func (PySem.W.ksFn "__init__" qual (Er.iA f p1 p2) (Er.iB f msg q1 q2 q3 q4 q5 q6 q7 q8 q9 q10) (Er.iS f) .none .none doc pm an (.ref cda) ct cc), osl⟩ ∧ PySem.W.codeIn K (.ref cda) qual = true ∧
    K.lookup cda = some ⟨ccl, cdd, .fields vs, ccs⟩ ∧ vs[2]? = some (.str file tf) ∧ ((P.main.file : Str) == file) = true ∧ K.lookup cc = some ⟨cl, cld, .cell (some (.ref C)), csl⟩ := by
  unfold iniB at h
  split at h
  · rename_i oc od fd osl ho
    obtain ⟨r10, h11⟩ := b2 h
    obtain ⟨r9, h10⟩ := b2 r10
    obtain ⟨r8, h9⟩ := b2 r9
    obtain ⟨r7, h8⟩ := b2 r8
    obtain ⟨r6, h7⟩ := b2 r7
    obtain ⟨r5, h6⟩ := b2 r6
    obtain ⟨r4, h5⟩ := b2 r5
    obtain ⟨r3, h4⟩ := b2 r4
    obtain ⟨r2, h3⟩ := b2 r3
    obtain ⟨h1, h2⟩ := b2 r2
    have a1 := of_decide_eq_true h1
    have a4 := of_decide_eq_true h4
    have a5 := of_decide_eq_true h5
    have a6 := of_decide_eq_true h6
    have a7 := of_decide_eq_true h7
    have a8 := of_decide_eq_true h8
    obtain ⟨p1, p2, e2⟩ := initA_ok h2
    obtain ⟨msg, q1, q2, q3, q4, q5, q6, q7, q8, q9, q10, hl, e3⟩ := initB_ok h3
    clear h r10 r9 r8 r7 r6 r5 r4 r3 r2 h1 h2 h3 h4 h5 h6 h7 h8
    obtain ⟨n1, n2, n3, n4, n5, n6, n7, n8, n9, n10, n11, n12, n13, n14, n15⟩ := fd
    dsimp only at a1 a4 a5 a6 a7 a8 e2 e3 h9 h10 h11
    subst a1 a4 a5 a6 a7 a8 e2 e3
    unfold codB at h10
    split at h10
    · rename_i cda
      split at h10
      · rename_i ccl cdd vs ccs hcd
        split at h10
        · rename_i file tf hv
          unfold celB at h11
          split at h11
          · rename_i x c
            obtain ⟨e1, h12⟩ := b2 h11
            have e1 := of_decide_eq_true e1
            subst e1
            split at h12
            · rename_i cl cld DD csl hc
              have h12 := of_decide_eq_true h12
              subst h12
              exact ⟨oc, od, n2, msg, n10, n11, n12, n14, cda, c, osl, p1, p2, q1, q2, q3, q4, q5, q6, q7, q8, q9, q10, vs, file, tf, ccl, cl, cdd, cld, ccs, csl, hl, ho, h9, hcd, hv, h10, hc⟩
            · cases h12
          · cases h11
        · cases h10
      · cases h10
    · cases h10
  · cases h
def errB (P : Program) (K : PySem.W.Frag) (x f : Str) : Bool :=
  He.eqO (PySem.W.nsIn K mainGlobals x) (some (some (.ref (gAt K x)))) && clsB K (gAt K x) && He.eqO (PySem.W.findIn K (.ref (gAt K x)) "__setattr__") (some (some (.builtin "object.__setattr__"))) && He.eqO (PySem.W.findIn K (.ref (gAt K x)) f) (some none) &&
  He.eqO (PySem.W.findIn K (.ref (gAt K x)) "__init__") (some (some (.ref (He.ma K (gAt K x) "__init__")))) && decide (PySem.W.typeIn K (.ref (He.ma K (gAt K x) "__init__")) = some (.type "function")) && PySem.W.keepIn K (.ref (gAt K x)) &&
  decide (PySem.W.subIn K (.ref (gAt K x)) (.type "BaseException") = some true) && decide (PySem.W.subIn K (.ref (gAt K x)) (.type "Exception") = some true) && decide (PySem.W.typeIn K (.ref (gAt K x)) = some (.type "type")) &&
  He.eqO (PySem.W.ks_superIn K (gAt K x) (gAt K x) "__init__") (some (some (.builtin "Exception.__init__"))) && He.eqO (PySem.W.nsIn K cStatics "thirdparty.any") (some none) && He.eqO (PySem.W.nsIn K mainGlobals "super") (some none) &&
  fokB f && !(P.main.scope.names.lookup ("super" : Str)).isSome && iniB P K (gAt K x) (He.ma K (gAt K x) "__init__") f
theorem errB_ok {P : Program} {K : PySem.W.Frag} {h : Heap} {mg : Str → Option Value} {x f : Str} (X : K.In h) (G : h.Ns mainGlobals mg) (c : errB P K x f = true) : Er.ErrTxt P K mg x (gAt K x) (He.ma K (gAt K x) "__init__") f := by
  obtain ⟨c, c16⟩ := b2 c
  obtain ⟨c, c15⟩ := b2 c
  obtain ⟨c, c14⟩ := b2 c
  obtain ⟨c, c13⟩ := b2 c
  obtain ⟨c, c12⟩ := b2 c
  obtain ⟨c, c11⟩ := b2 c
  obtain ⟨c, c10⟩ := b2 c
  obtain ⟨c, c9⟩ := b2 c
  obtain ⟨c, c8⟩ := b2 c
  obtain ⟨c, c7⟩ := b2 c
  obtain ⟨c, c6⟩ := b2 c
  obtain ⟨c, c5⟩ := b2 c
  obtain ⟨c, c4⟩ := b2 c
  obtain ⟨c, c3⟩ := b2 c
  obtain ⟨c1, c2⟩ := b2 c
  refine ⟨PySem.W.mg_of X G (He.eqO_ok c1), clsB_ok c2, He.eqO_ok c3, He.eqO_ok c4, He.eqO_ok c5, of_decide_eq_true c6, c7, of_decide_eq_true c8, of_decide_eq_true c9, of_decide_eq_true c10, He.eqO_ok c11, He.eqO_ok c12, PySem.W.mg_none_of X G (He.eqO_ok c13), ?_, by simpa using c15, iniB_ok c16⟩
  unfold fokB at c14
  rcases Bool.or_eq_true_iff.mp c14 with c14 | c14
  · rcases Bool.or_eq_true_iff.mp c14 with c14 | c14
    · exact .inl (of_decide_eq_true c14)
    · exact .inr (.inl (of_decide_eq_true c14))
  · exact .inr (.inr (of_decide_eq_true c14))

/-! ### a law's whole program -/
structure Pk where
  defs : List Df
  kws : List (Str × Nat × List Str × List Nat)
  consts : List (Str × D)
  gts : List (Str × List Int)
  errs : List (Str × Str)
  hns : List Str
  subs : List (Str × Str)
def Pk.kw (p : Pk) (f : Str) (n : Nat) (ks : List Str) : Option (List Nat) := (p.kws.find? fun e => decide (e.1 = f) && decide (e.2.1 = n) && decide (e.2.2.1 = ks)).map (·.2.2.2)
def Pk.T (p : Pk) : Tb where
  g := fun x => p.consts.lookup x
  fps := fun f => (findF p.defs f).map (·.ps)
  kwp := p.kw
  gt := fun x => p.gts.lookup x
  fld := fun c => (p.errs.lookup c).map ([·])
  sub := fun c c' => p.subs.contains (c, c')
  hn := fun c => p.hns.contains c
theorem ints_rels {K : PySem.W.Frag} {F : Hp} {R : List Addr} : ∀ {ns : List Int}, Rels K F R (ns.map D.int) (ns.map V.int)
  | [] => Rels.nil
  | n :: ns => Rels.cons (by unfold Rel; rfl) ints_rels
def gtiB (K : PySem.W.Frag) (x : Str) (ns : List Int) : Bool := He.eqO (PySem.W.nsIn K mainGlobals x) (some (some (.ref (gAt K x)))) && (match K.lookup (gAt K x) with
  | some ⟨.type c, none, .seq its _, _⟩ => decide (c = "tuple") && (decide (its.size ≤ sizeLine) && conBs K (ns.map D.int) its.toList)
  | _ => false)
theorem rels_intsF {K : PySem.W.Frag} {F : Hp} {R : List Addr} : ∀ {ns : List Int} {vs : List V}, Rels K F R (ns.map D.int) vs → vs = ns.map V.int
  | [], vs, h => by unfold List.map Rels at h; exact h
  | n :: ns, vs, h => by
    unfold List.map Rels at h
    obtain ⟨v, ws, rfl, h1, h2⟩ := h
    unfold Rel at h1
    rw [h1, rels_intsF h2]
    rfl
theorem gtiB_ok {K : PySem.W.Frag} {h : Heap} {mg : Str → Option Value} {x : Str} {ns : List Int} (X : K.In h) (G : h.Ns mainGlobals mg) (c : gtiB K x ns = true) :
    ∃ a o, mg x = some (.ref a) ∧ (∀ H, SqT K H a (ns.map V.int)) ∧ K.lookup a = some o ∧ o.cls = .type "tuple" ∧ o.dict = none := by
  obtain ⟨c1, c2⟩ := b2 c
  cases q : K.lookup (gAt K x) with
  | none => rw [q] at c2; cases c2
  | some o =>
    obtain ⟨oc, od, dt, osl⟩ := o
    rw [q] at c2
    cases oc <;> cases od <;> first | (cases dt <;> (cases c2; done)) | skip
    cases dt <;> first | (cases c2; done) | skip
    obtain ⟨h1, h2⟩ := b2 c2
    obtain ⟨h3, h4⟩ := b2 h2
    obtain ⟨vs, e, r⟩ := conBs_ok h4
    have := rels_intsF (r (fun _ => none) [])
    subst this
    exact ⟨gAt K x, _, PySem.W.mg_of X G (He.eqO_ok c1), fun H => .inr ⟨_, _, _, q, congrArg Value.type (of_decide_eq_true h1), rfl, of_decide_eq_true h3, e⟩, q, congrArg Value.type (of_decide_eq_true h1), rfl⟩
def Pk.okB (p : Pk) (P : Program) (K : PySem.W.Frag) : Bool :=
  (bltNames.all fun x => He.eqO (PySem.W.nsIn K mainGlobals x) (some none)) &&
  (p.consts.all fun c => match PySem.W.nsIn K mainGlobals c.1 with | some (some u) => conB K c.2 u | _ => false) &&
  (p.gts.all fun c => gtiB K c.1 c.2) && (p.errs.all fun c => errB P K c.1 c.2 && xfB K (gAt K c.1)) &&
  (p.hns.all fun c => He.eqO (PySem.W.nsIn K mainGlobals c) (some (some (.ref (gAt K c)))) && p.hns.all fun d => decide (PySem.W.exmOne K (.ref (gAt K c)) (.ref (gAt K d)) = some (p.subs.contains (c, d))))
def Df.hd (d : Df) : He.DefD := ⟨(d.nm, none), d.nm, d.nm, defArgs d.st, defBody d.st, defScope d.st, [], []⟩
def Pk.fa (p : Pk) : List He.Fa := p.defs.map fun d => .glo d.nm
def Pk.fn (p : Pk) : List He.DefD := p.defs.map Df.hd
/-- texts against bodies: by the kernel, once -/
def Pk.txB (p : Pk) : Bool := p.defs.all fun d => d.okB && paramsB (defArgs d.st) d.ps
theorem lookup_mem {α β : Type} [BEq α] [LawfulBEq α] {l : List (α × β)} {x : α} {b : β} (h : l.lookup x = some b) : (x, b) ∈ l := by
  induction l with
  | nil => cases h
  | cons p l ih =>
    obtain ⟨y, c⟩ := p
    rw [List.lookup_cons] at h
    cases q : (x == y) with
    | true =>
      rw [q] at h
      cases h
      rw [beq_iff_eq.mp q]
      exact List.mem_cons_self
    | false =>
      rw [q] at h
      exact List.mem_cons_of_mem _ (ih h)
theorem findF_mem {ds : List Df} {f : Str} {d : Df} (h : findF ds f = some d) : d ∈ ds ∧ d.nm = f := by
  unfold findF at h
  have h2 := List.find?_some h
  exact ⟨List.mem_of_find?_eq_some h, of_decide_eq_true h2⟩
theorem Pk.txt (p : Pk) {P : Program} {K : PySem.W.Frag} {h : Heap} {mg : Str → Option Value} (X : K.In h) (G : h.Ns mainGlobals mg) (c1 : p.okB P K = true) (c2 : He.SaysD p.fa p.fn K) (c3 : p.txB = true)
    (kw : ∀ e ∈ p.kws, ∀ d, findF p.defs e.1 = some d → ∀ fa fd, FunD K d.nm d.nm (defArgs d.st) (defBody d.st) (defScope d.st) [] [] fa fd → KB K fd d.ps e.2.1 e.2.2.1 e.2.2.2) : Txt P K mg p.T p.defs := by
  obtain ⟨c1, q5⟩ := b2 c1
  obtain ⟨c1, q4⟩ := b2 c1
  obtain ⟨c1, q3⟩ := b2 c1
  obtain ⟨q1, q2⟩ := b2 c1
  refine ⟨fun f d hd => ?_, fun f d hd => ?_, fun f ps hp => ?_, fun x hx => ?_, fun x d hx => ?_, fun x ns hx => ?_, fun c fs hc => ?_, fun c c' h1 h2 => ?_, fun c f hf => ?_⟩
  · obtain ⟨hm, rfl⟩ := findF_mem hd
    obtain ⟨i, hi⟩ := List.getElem?_of_mem hm
    have hi1 : p.fn[i]? = some d.hd := by unfold Pk.fn; rw [List.getElem?_map, hi]; rfl
    have hi2 : p.fa[i]? = some (.glo d.nm) := by unfold Pk.fa; rw [List.getElem?_map, hi]; rfl
    obtain ⟨fd, F⟩ := c2.def_ i hi1
    have hp := (b2 (List.all_eq_true.mp c3 d hm)).2
    have F' : FunD K d.nm d.nm (defArgs d.st) (defBody d.st) (defScope d.st) [] [] (He.fAd K (d.nm, none)) fd := F
    refine ⟨He.fAd K (d.nm, none), fd, He.glo_ok X G (c2.fact i hi2), F', F'.bindsN fun kV doc pm an cdv ct us hl => bind_gen hp hl, fun n ks q hq => ?_⟩
    have hq : p.kw d.nm n ks = some q := hq
    unfold Pk.kw at hq
    obtain ⟨e, he, rfl⟩ := Option.map_eq_some_iff.mp hq
    have h1 := List.find?_some he
    have h2 := List.mem_of_find?_eq_some he
    obtain ⟨h1, h5⟩ := b2 h1
    obtain ⟨h3, h4⟩ := b2 h1
    have h3 := of_decide_eq_true h3
    have h4 := of_decide_eq_true h4
    have h5 := of_decide_eq_true h5
    subst h4 h5
    exact kw e h2 d (by rw [h3]; exact hd) _ _ F'
  · exact (b2 (List.all_eq_true.mp c3 d (findF_mem hd).1)).1
  · obtain ⟨d, hd, rfl⟩ := Option.map_eq_some_iff.mp (show (findF p.defs f).map (·.ps) = some ps from hp)
    exact ⟨d, hd, rfl⟩
  · exact PySem.W.mg_none_of X G (He.eqO_ok (List.all_eq_true.mp q1 x hx))
  · have := List.all_eq_true.mp q2 _ (lookup_mem (show p.consts.lookup x = some d from hx))
    dsimp only at this
    cases e : PySem.W.nsIn K mainGlobals x with
    | none => rw [e] at this; cases this
    | some o =>
      cases o with
      | none => rw [e] at this; cases this
      | some u =>
        rw [e] at this
        obtain ⟨v, r1, r2⟩ := conB_ok this
        exact ⟨v, u, PySem.W.mg_of X G e, r1, r2⟩
  · exact gtiB_ok X G (List.all_eq_true.mp q3 _ (lookup_mem (show p.gts.lookup x = some ns from hx)))
  · obtain ⟨f, hf, rfl⟩ := Option.map_eq_some_iff.mp (show (p.errs.lookup c).map ([·]) = some fs from hc)
    have := (b2 (List.all_eq_true.mp q4 _ (lookup_mem hf))).1
    exact ⟨_, f, rfl, errB_ok X G this⟩
  · have h1 : c ∈ p.hns := List.contains_iff_mem.mp h1
    have h2 : c' ∈ p.hns := List.contains_iff_mem.mp h2
    refine ⟨PySem.W.mg_of X G (He.eqO_ok (b2 (List.all_eq_true.mp q5 c' h2)).1), ?_⟩
    exact of_decide_eq_true (List.all_eq_true.mp (b2 (List.all_eq_true.mp q5 c h1)).2 c' h2)
  · unfold fieldB at hf
    cases e : p.errs.lookup c with
    | none =>
      have : p.T.fld c = none := by show (p.errs.lookup c).map ([·]) = none; rw [e]; rfl
      rw [this] at hf; cases hf
    | some g =>
      have : p.T.fld c = some [g] := by show (p.errs.lookup c).map ([·]) = some [g]; rw [e]; rfl
      rw [this] at hf
      have hg : f = g := by simpa using hf
      subst hg
      obtain ⟨h1, h2⟩ := b2 (List.all_eq_true.mp q4 _ (lookup_mem e))
      exact ⟨xfB_ok h2, (errB_ok X G h1).noN⟩

/-! ### the hook -/
abbrev AlN : Type := Bool × He.AlD
def frN (n : Nat) (g : Addr → Option Obj) : PySem.W.Frag := He.frG g (cStatics :: He.asD g n)
def Pk.obsG (p : Pk) (P : Program) (n : Nat) (g : Addr → Option Obj) : AlN := (p.okB P (frN n g), He.obsD p.fa p.fn (frN n g))
def Pk.hook (p : Pk) (P : Program) (n : Nat) : PySem.W.Hook where
  α := AlN
  obs := fun s => p.obsG P n s.heap.get?
  val := fun _ => (true, He.valD p.fn)
  says := fun _ h => ∃ K : PySem.W.Frag, K.In h ∧ p.okB P K = true ∧ He.SaysD p.fa p.fn K
  of := fun _ _ e => ⟨_, He.frG_in, congrArg (fun z : AlN => z.1) e, congrArg (fun z : AlN => z.2) e⟩
  keeps := fun _ _ _ ⟨K, hK, c⟩ k => ⟨K, PySem.W.Frag.In.keeps hK k, c⟩
theorem Pk.obsG_eq {p : Pk} {P : Program} {n : Nat} {g : Addr → Option Obj} {s : Shared} (h : ∀ a, g a = s.heap.get? a) : p.obsG P n g = (p.hook P n).obs s := by
  have e : g = s.heap.get? := funext h
  rw [e] <;> rfl
end Nb
end
section
set_option Elab.async false
set_option linter.all false
set_option maxRecDepth 100000
/-! PlA: reasoning about the evaluator: what must hold behind it -/
namespace Nb
open PySem PySem.Spec PyProof.Rows L2

def wpR {α : Type} (r : Res α) (Q : α → Sto → Prop) (X : Str → List (Str × D) → Sto → Prop) : Prop := match r with
  | .ok a s => Q a s
  | .exc c fs s => X c fs s
  | .bad => False
structure Po where
  nx : Enw → Sto → Prop
  rt : D → Sto → Prop
  ex : Str → List (Str × D) → Enw → Sto → Prop
  bk : Enw → Sto → Prop
  ct : Enw → Sto → Prop
def wpS (o : Out) (P : Po) : Prop := match o with
  | .nx e s => P.nx e s
  | .rt d s => P.rt d s
  | .ex c fs e s => P.ex c fs e s
  | .bk e s => P.bk e s
  | .ct e s => P.ct e s
  | .bad => False
section
variable {α β : Type} {r : Res α} {f : α → Sto → Res β} {Q : α → Sto → Prop} {Q' : β → Sto → Prop} {X : Str → List (Str × D) → Sto → Prop} {s st : Sto} {a : α} {o : Option α} {P : Po} {e : Enw} {d : D}
@[simp] theorem wpR_ok : wpR (.ok a s) Q X ↔ Q a s := Iff.rfl
@[simp] theorem wpR_bad : wpR (.bad : Res α) Q X ↔ False := Iff.rfl
@[simp] theorem wpR_exc {c : Str} {fs : List (Str × D)} : wpR (.exc c fs s : Res α) Q X ↔ X c fs s := Iff.rfl
@[simp] theorem wpR_bind : wpR (r.bind f) Q' X ↔ wpR r (fun a s => wpR (f a s) Q' X) X := by cases r <;> rfl
@[simp] theorem wpR_ofO : wpR (ofO o s) Q X ↔ ∃ z, o = some z ∧ Q z s := by cases o <;> simp [ofO, wpR]
theorem wpR_nox : wpR r Q (fun _ _ _ => False) → wpR r.nox Q X := by cases r <;> simp [Res.nox, wpR]
@[simp] theorem wpR_noxI : wpR r.nox Q X ↔ wpR r Q (fun _ _ _ => False) := by cases r <;> simp [Res.nox, wpR]
theorem wpR.mono {Q1 : α → Sto → Prop} {X1 : Str → List (Str × D) → Sto → Prop} (h : wpR r Q X) (i : ∀ a s, Q a s → Q1 a s) (j : ∀ c fs s, X c fs s → X1 c fs s) : wpR r Q1 X1 := by
  cases r with
  | ok a s => exact i a s h
  | exc c fs s => exact j c fs s h
  | bad => exact h
/-- no exception -/
theorem wpR.to {Q1 : α → Sto → Prop} {X1 : Str → List (Str × D) → Sto → Prop} (h : wpR r Q (fun _ _ _ => False)) (i : ∀ a s, Q a s → Q1 a s) : wpR r Q1 X1 := h.mono i fun _ _ _ h => h.elim
theorem wpR_eq : wpR r (fun b s' => b = a ∧ s' = s) (fun _ _ _ => False) ↔ r = .ok a s := by
  cases r <;> simp [wpR]
theorem wpR.ex (h : wpR r Q (fun _ _ _ => False)) : ∃ a s, r = .ok a s ∧ Q a s := by
  cases r with
  | ok a s => exact ⟨a, s, rfl, h⟩
  | exc c fs s => exact h.elim
  | bad => exact h.elim
theorem wpS.mono {o : Out} {P P' : Po} (h : wpS o P) (h1 : ∀ e s, P.nx e s → P'.nx e s) (h2 : ∀ d s, P.rt d s → P'.rt d s) (h3 : ∀ c fs e s, P.ex c fs e s → P'.ex c fs e s) (h4 : ∀ e s, P.bk e s → P'.bk e s) (h5 : ∀ e s, P.ct e s → P'.ct e s) : wpS o P' := by
  cases o with
  | nx e s => exact h1 _ _ h
  | rt d s => exact h2 _ _ h
  | ex c fs e s => exact h3 _ _ _ _ h
  | bk e s => exact h4 _ _ h
  | ct e s => exact h5 _ _ h
  | bad => exact h
@[simp] theorem wpS_nx : wpS (.nx e s) P ↔ P.nx e s := Iff.rfl
@[simp] theorem wpS_rt : wpS (.rt d s) P ↔ P.rt d s := Iff.rfl
@[simp] theorem wpS_ex {c : Str} {fs : List (Str × D)} : wpS (.ex c fs e s) P ↔ P.ex c fs e s := Iff.rfl
@[simp] theorem wpS_bk : wpS (.bk e s) P ↔ P.bk e s := Iff.rfl
@[simp] theorem wpS_ct : wpS (.ct e s) P ↔ P.ct e s := Iff.rfl
@[simp] theorem wpS_bad : wpS .bad P ↔ False := Iff.rfl
@[simp] theorem wpS_so {g : α → Sto → Out} : wpS (r.so e g) P ↔ wpR r (fun a s => wpS (g a s) P) (fun c fs s => P.ex c fs e s) := by cases r <;> rfl
@[simp] theorem wpS_ite {c : Prop} [Decidable c] {x y : Out} : wpS (if c then x else y) P ↔ (if c then wpS x P else wpS y P) := by split <;> rfl
@[simp] theorem wpR_ite {c : Prop} [Decidable c] {x y : Res α} : wpR (if c then x else y) Q X ↔ (if c then wpR x Q X else wpR y Q X) := by split <;> rfl
theorem wpR_outR {o : Out} {Q : D → Sto → Prop} : wpR (outR o) Q X ↔ wpS o ⟨fun _ s => Q .non s, Q, fun c fs _ s => X c fs s, fun _ _ => False, fun _ _ => False⟩ := by cases o <;> simp [outR]
end
section
variable {T : Tb} {cl : Cl} {e : Enw} {st s : Sto} {Q : D → Sto → Prop} {B : Bool → Sto → Prop} {X : Str → List (Str × D) → Sto → Prop} {P : Po} {a b c : Ex} {i : Nat} {es : Es}
@[simp] theorem wv_mkT {v : Enw → Sto → Res D} : (mkT v).v e st = v e st := rfl
@[simp] theorem wb_mkT {v : Enw → Sto → Res D} : wpR ((mkT v).b e st) B X ↔ wpR (v e st) (fun x s1 => ∃ k, truD s1 x = some k ∧ B k s1) X := by simp [mkT]
@[simp] theorem wv_mkB {v : Enw → Sto → Res Bool} : wpR ((mkB v).v e st) Q X ↔ wpR (v e st) (fun k s1 => Q (.bl k) s1) X := by simp [mkB]
@[simp] theorem wb_mkB {v : Enw → Sto → Res Bool} : (mkB v).b e st = v e st := rfl
@[simp] theorem w_var : wpR ((sem T cl (.var i)).v e st) Q X ↔ ∃ d, e[i]? = some (.va d) ∧ Q d st := by
  simp only [sem, wv_mkT]
  rcases h : e[i]? with _ | ⟨_ | d | d | ⟨x, y⟩⟩ <;> simp
@[simp] theorem w_peek : wpR ((sem T cl (.peek i)).v e st) Q X ↔ ∃ d, (e[i]? = some (.va d) ∨ e[i]? = some (.ow d)) ∧ Q d st := by
  simp only [sem, wv_mkT]
  rcases h : e[i]? with _ | ⟨_ | d | d | ⟨x, y⟩⟩ <;> simp
@[simp] theorem w_glb {x : Str} : wpR ((sem T cl (.glb x)).v e st) Q X ↔ ∃ d, T.g x = some d ∧ Q d st := by simp [sem]
@[simp] theorem w_kon {k : Kon} : wpR ((sem T cl (.kon k)).v e st) Q X ↔ Q k.d st := by simp [sem]
@[simp] theorem w_un {o : Uo} : wpR ((sem T cl (.un o a)).v e st) Q X ↔ wpR ((sem T cl a).v e st) (fun x s1 => ∃ z, unD o x = some z ∧ Q z s1) X := by simp [sem]
@[simp] theorem w_bin {o : Bo} : wpR ((sem T cl (.bin o a b)).v e st) Q X ↔ wpR ((sem T cl a).v e st) (fun x s1 => wpR ((sem T cl b).v e s1) (fun y s2 => ∃ z, binD o x y = some z ∧ Q z s2) X) X := by simp [sem]
@[simp] theorem w_cmp {o : Co} : wpR ((sem T cl (.cmp o a b)).b e st) B X ↔ wpR ((sem T cl a).v e st) (fun x s1 => wpR ((sem T cl b).v e s1) (fun y s2 => ∃ z, cmpD s2 o x y = some z ∧ B z s2) X) X := by simp [sem]
@[simp] theorem w_cmpv {o : Co} : wpR ((sem T cl (.cmp o a b)).v e st) Q X ↔ wpR ((sem T cl (.cmp o a b)).b e st) (fun k s => Q (.bl k) s) X := by simp [sem, mkB]
@[simp] theorem w_chn {o p : Co} : wpR ((sem T cl (.chn o p a b c)).b e st) B X ↔ wpR ((sem T cl a).v e st) (fun x s1 => wpR ((sem T cl b).v e s1) (fun y s2 => ∃ z, cmpD s2 o x y = some z ∧ if z = true then wpR ((sem T cl c).v e s2) (fun w s4 => ∃ k, cmpD s4 p y w = some k ∧ B k s4) X else B false s2) X) X := by simp [sem]
@[simp] theorem w_chnv {o p : Co} : wpR ((sem T cl (.chn o p a b c)).v e st) Q X ↔ wpR ((sem T cl (.chn o p a b c)).b e st) (fun k s => Q (.bl k) s) X := by simp [sem, mkB]
@[simp] theorem w_and : wpR ((sem T cl (.bop true a b)).b e st) B X ↔ wpR ((sem T cl a).b e st) (fun k s1 => if k = true then wpR ((sem T cl b).b e s1) B X else B false s1) X := by simp [sem]
@[simp] theorem w_or : wpR ((sem T cl (.bop false a b)).b e st) B X ↔ wpR ((sem T cl a).b e st) (fun k s1 => if k = true then B true s1 else wpR ((sem T cl b).b e s1) B X) X := by simp [sem]
@[simp] theorem w_andv : wpR ((sem T cl (.bop true a b)).v e st) Q X ↔ wpR ((sem T cl a).v e st) (fun x s1 => ∃ k, truD s1 x = some k ∧ if k = true then wpR ((sem T cl b).v e s1) Q X else Q x s1) X := by simp [sem]
@[simp] theorem w_orv : wpR ((sem T cl (.bop false a b)).v e st) Q X ↔ wpR ((sem T cl a).v e st) (fun x s1 => ∃ k, truD s1 x = some k ∧ if k = true then Q x s1 else wpR ((sem T cl b).v e s1) Q X) X := by simp [sem]
@[simp] theorem w_nt : wpR ((sem T cl (.nt a)).b e st) B X ↔ wpR ((sem T cl a).b e st) (fun k s1 => B (!k) s1) X := by simp [sem]
@[simp] theorem w_ntv : wpR ((sem T cl (.nt a)).v e st) Q X ↔ wpR ((sem T cl a).v e st) (fun x s1 => ∃ k, truD s1 x = some k ∧ Q (.bl (!k)) s1) X := by simp [sem]
@[simp] theorem w_itev : wpR ((sem T cl (.ite c a b)).v e st) Q X ↔ wpR ((sem T cl c).b e st) (fun k s1 => if k = true then wpR ((sem T cl a).v e s1) Q X else wpR ((sem T cl b).v e s1) Q X) X := by simp [sem]
@[simp] theorem w_iteb : wpR ((sem T cl (.ite c a b)).b e st) B X ↔ wpR ((sem T cl c).b e st) (fun k s1 => if k = true then wpR ((sem T cl a).b e s1) B X else wpR ((sem T cl b).b e s1) B X) X := by simp [sem]
@[simp] theorem w_idx : wpR ((sem T cl (.idx a b)).v e st) Q X ↔ wpR ((sem T cl a).v e st) (fun x s1 => wpR ((sem T cl b).v e s1) (fun y s2 => ∃ z, idxD s2 x y = some z ∧ Q z s2) X) X := by simp [sem]
@[simp] theorem w_no {R : Option Int → Sto → Prop} : wpR (semO T cl .no e st) R X ↔ R none st := by simp [semO]
@[simp] theorem w_so {R : Option Int → Sto → Prop} : wpR (semO T cl (.so a) e st) R X ↔ wpR ((sem T cl a).v e st) (fun x s1 => ∃ i, intD x = some i ∧ R (some i) s1) X := by simp [semO]
@[simp] theorem w_slc {l h : Op} : wpR ((sem T cl (.slc a l h)).v e st) Q X ↔ wpR ((sem T cl a).v e st) (fun x s1 => wpR (semO T cl l e s1) (fun lo s2 => wpR (semO T cl h e s2) (fun hi s3 => ∃ z, slcD x lo hi = some z ∧ Q z s3) X) X) X := by simp [sem]
@[simp] theorem w_dE {t : Bool} : wpR ((sem T cl (.dE t)).v e st) Q X ↔ Q (if t = true then .dt [] [] else .dk [] []) st := by simp [sem]
@[simp] theorem w_rev : wpR ((sem T cl (.rev a)).v e st) Q X ↔ wpR ((sem T cl a).v e st) (fun x s1 => ∃ z, revD x = some z ∧ Q z s1) X := by simp [sem]
@[simp] theorem w_nil {R : List D → Sto → Prop} : wpR (sems T cl .nil e st) R X ↔ R [] st := by simp [sems]
@[simp] theorem w_cons {R : List D → Sto → Prop} : wpR (sems T cl (.cons a es) e st) R X ↔ wpR ((sem T cl a).v e st) (fun x s1 => wpR (sems T cl es e s1) (fun xs s2 => R (x :: xs) s2) X) X := by simp [sems]
@[simp] theorem w_tup : wpR ((sem T cl (.tup es)).v e st) Q X ↔ wpR (sems T cl es e st) (fun ds s1 => ds.length ≤ big ∧ Q (.tup ds) s1) X := by
  simp only [sem, wv_mkT, wpR_bind, wpR_ite]
  constructor <;> intro h <;> refine h.mono (fun a s h => ?_) fun _ _ _ h => h
  · split at h
    · exact ⟨by assumption, h⟩
    · exact h.elim
  · rw [if_pos h.1]; exact h.2
@[simp] theorem w_lst : wpR ((sem T cl (.lst es)).v e st) Q X ↔ wpR (sems T cl es e st) (fun ds s1 => ds.length ≤ big ∧ Q (.lst ds) s1) X := by
  simp only [sem, wv_mkT, wpR_bind, wpR_ite]
  constructor <;> intro h <;> refine h.mono (fun a s h => ?_) fun _ _ _ h => h
  · split at h
    · exact ⟨by assumption, h⟩
    · exact h.elim
  · rw [if_pos h.1]; exact h.2
@[simp] theorem w_cal {f : Str} {ks : List Str} : wpR ((sem T cl (.cal f es ks)).v e st) Q X ↔ ∃ ps, T.fps f = some ps ∧ wpR (sems T cl es e st) (fun ds s1 => wpR (calD T cl f ps ks ds s1) Q X) X := by
  simp only [sem, wv_mkT]
  cases T.fps f <;> simp
@[simp] theorem w_bi {k : Bi} : wpR ((sem T cl (.bi k es)).v e st) Q X ↔ wpR (sems T cl es e st) (fun ds s1 => ∃ z, biD s1 k ds = some z ∧ Q z s1) X := by simp [sem]
@[simp] theorem w_rg1 {t : Bool} : wpR ((sem T cl (.rg1 t a)).v e st) Q X ↔ wpR ((sem T cl a).v e st) (fun x s1 => ∃ z, rgD t [x] = some z ∧ Q z s1) X := by simp [sem]
@[simp] theorem w_rg2 {t : Bool} : wpR ((sem T cl (.rg2 t a b)).v e st) Q X ↔ wpR ((sem T cl a).v e st) (fun x s1 => wpR ((sem T cl b).v e s1) (fun y s2 => ∃ z, rgD t [x, y] = some z ∧ Q z s2) X) X := by simp [sem]
@[simp] theorem w_isi {ts : List String} : wpR ((sem T cl (.isi a ts)).b e st) B X ↔ wpR ((sem T cl a).v e st) (fun x s1 => ∃ z, isiD x ts = some z ∧ B z s1) X := by simp [sem]
@[simp] theorem w_isiv {ts : List String} : wpR ((sem T cl (.isi a ts)).v e st) Q X ↔ wpR ((sem T cl (.isi a ts)).b e st) (fun k s => Q (.bl k) s) X := by simp [sem, mkB]
@[simp] theorem w_new : wpR ((sem T cl (.new a)).v e st) Q X ↔ wpR ((sem T cl a).v e st) (fun x s1 => wpR (newD x s1) Q X) X := by simp [sem]
@[simp] theorem w_popR {k : Op} : wpR ((sem T cl (.popR a k)).v e st) Q X ↔ wpR ((sem T cl a).v e st) (fun x s1 => isRef x = true ∧ wpR (semO T cl k e s1) (fun j s2 => wpR (popRD x j s2) Q X) X) X := by
  simp only [sem, wv_mkT, wpR_bind, wpR_ite]
  constructor <;> intro h <;> refine h.mono (fun a s h => ?_) fun _ _ _ h => h
  · split at h
    · exact ⟨by assumption, h⟩
    · exact h.elim
  · rw [if_pos h.1]; exact h.2
@[simp] theorem w_gix {x : Str} : wpR ((sem T cl (.gix x a)).v e st) Q X ↔ ∃ ns, T.gt x = some ns ∧ wpR ((sem T cl a).v e st) (fun y s1 => ∃ z, gixD ns y = some z ∧ Q z s1) X := by
  simp only [sem, wv_mkT]
  cases T.gt x <;> simp
@[simp] theorem w_exf {f : Str} : wpR ((sem T cl (.exf i f)).v e st) Q X ↔ ∃ c fs, e[i]? = some (.er c fs) ∧ fieldB T c f = true ∧ ∃ z, fs.lookup f = some z ∧ Q z st := by
  simp only [sem, wv_mkT]
  rcases h : e[i]? with _ | ⟨_ | d | d | ⟨x, y⟩⟩ <;> simp
  constructor
  · exact fun h => ⟨x, y, ⟨rfl, rfl⟩, h⟩
  · rintro ⟨x, y, ⟨rfl, rfl⟩, h⟩
    exact h
/-- every other expression's truth -/
theorem w_bv {x : Ex} (h : (sem T cl x).b = fun e st => ((sem T cl x).v e st).bind fun y s1 => ofO (truD s1 y) s1) : wpR ((sem T cl x).b e st) B X ↔ wpR ((sem T cl x).v e st) (fun y s1 => ∃ k, truD s1 y = some k ∧ B k s1) X := by
  rw [h]; simp
@[simp] theorem w_bvar : wpR ((sem T cl (.var i)).b e st) B X ↔ wpR ((sem T cl (.var i)).v e st) (fun y s1 => ∃ k, truD s1 y = some k ∧ B k s1) X := w_bv rfl
@[simp] theorem w_bcal {f : Str} {ks : List Str} : wpR ((sem T cl (.cal f es ks)).b e st) B X ↔ wpR ((sem T cl (.cal f es ks)).v e st) (fun y s1 => ∃ k, truD s1 y = some k ∧ B k s1) X := w_bv rfl
@[simp] theorem w_bbi {k : Bi} : wpR ((sem T cl (.bi k es)).b e st) B X ↔ wpR ((sem T cl (.bi k es)).v e st) (fun y s1 => ∃ k, truD s1 y = some k ∧ B k s1) X := w_bv rfl
/-! iteration -/
@[simp] theorem w_seq {R : List D → Sto → Prop} : wpR (semI T cl (.seq a) e st) R X ↔ wpR ((sem T cl a).v e st) (fun x s1 => ∃ z, (itemsD x).bind few = some z ∧ R z s1) X := by simp [semI]
@[simp] theorem w_rng {R : List D → Sto → Prop} : wpR (semI T cl (.rng es) e st) R X ↔ wpR (sems T cl es e st) (fun ds s1 => ∃ z, (rngD ds).bind few = some z ∧ R z s1) X := by simp [semI]
@[simp] theorem w_zip {R : List D → Sto → Prop} : wpR (semI T cl (.zip a b) e st) R X ↔ wpR ((sem T cl a).v e st) (fun x s1 => wpR ((sem T cl b).v e s1) (fun y s2 => ∃ z, (zip2D x y).bind few = some z ∧ R z s2) X) X := by simp [semI]
@[simp] theorem w_enu {R : List D → Sto → Prop} : wpR (semI T cl (.enu a) e st) R X ↔ wpR ((sem T cl a).v e st) (fun x s1 => ∃ z, ((itsD x).map enuD).bind few = some z ∧ R z s1) X := by simp [semI]
@[simp] theorem w_cno {R : Bool → Sto → Prop} : wpR (semC T cl .no e st) R X ↔ R true st := by simp [semC]
@[simp] theorem w_cso {R : Bool → Sto → Prop} : wpR (semC T cl (.so a) e st) R X ↔ wpR ((sem T cl a).b e st) R X := by simp [semC]
@[simp] theorem w_lc {w : List Nat} {t : Tg} {it : It} {k : Op} : wpR ((sem T cl (.lc w t it k a)).v e st) Q X ↔ wpR (semI T cl it e st) (fun ds s1 => wpR (lcLoop (turnC w t (semC T cl k) (sem T cl a).v e) ds s1) (fun xs s2 => Q (.lst xs) s2) (fun _ _ _ => False)) X := by simp [sem]
@[simp] theorem w_ssc {w : List Nat} {t : Tg} {it : It} {k : Op} : wpR ((sem T cl (.ssc w t it k a)).v e st) Q X ↔ wpR (semI T cl it e st) (fun ds s1 => wpR (lcLoop (turnC w t (semC T cl k) (sem T cl a).v e) ds s1) (fun xs s2 => (tupsOk xs && decide (xs.length < 64)) = true ∧ Q (.lst (sortBy (fun d => TS.code (boundD xs) (intsD d)) (dedupD xs))) s2) (fun _ _ _ => False)) X := by
  simp only [sem, wv_mkT, wpR_bind, wpR_ite, wpR_noxI]
  constructor <;> intro h <;> refine h.mono (fun a s h => h.mono (fun a s h => ?_) fun _ _ _ h => h) fun _ _ _ h => h
  · split at h
    · exact ⟨by assumption, h⟩
    · exact h.elim
  · rw [if_pos h.1]; exact h.2
@[simp] theorem w_lc2 {w w1 : List Nat} {t t1 : Tg} {it it1 : It} {k : Op} : wpR ((sem T cl (.lc2 w w1 t it t1 it1 k a)).v e st) Q X ↔ wpR (semI T cl it e st) (fun ds s1 => wpR (lcLoop2 (fun d s => match bindT t d (e.wipe w) with
      | none => .bad
      | some e1 => (semI T cl it1 e1 s).bind fun ds1 s' => lcLoop (turnC w1 t1 (semC T cl k) (sem T cl a).v e1) ds1 s') ds s1) (fun xs s2 => xs.length ≤ big ∧ Q (.lst xs) s2) (fun _ _ _ => False)) X := by
  simp only [sem, wv_mkT, wpR_bind, wpR_ite, wpR_noxI]
  constructor <;> intro h <;> refine h.mono (fun a s h => h.mono (fun a s h => ?_) fun _ _ _ h => h) fun _ _ _ h => h
  · split at h
    · exact ⟨by assumption, h⟩
    · exact h.elim
  · rw [if_pos h.1]; exact h.2
@[simp] theorem w_dcT {w : List Nat} {t : Tg} {it : It} : wpR ((sem T cl (.dcT w t it a b)).v e st) Q X ↔ wpR (semI T cl it e st) (fun ds s1 => wpR (dcLoop (turnD keysD w t (sem T cl a).v (sem T cl b).v e) ds [] [] s1) (fun xs s2 => Q (.dt xs.1 xs.2) s2) (fun _ _ _ => False)) X := by simp [sem]
@[simp] theorem w_dcK {w : List Nat} {t : Tg} {it : It} : wpR ((sem T cl (.dcK w t it a b)).v e st) Q X ↔ wpR (semI T cl it e st) (fun ds s1 => wpR (dcLoop (turnD keyD w t (sem T cl a).v (sem T cl b).v e) ds [] [] s1) (fun xs s2 => Q (.dk xs.1 xs.2) s2) (fun _ _ _ => False)) X := by simp [sem]
/-! statements -/
variable {ss : Ss} {sm : Sm}
@[simp] theorem w_snil : wpS (exss T cl .nil e st) P ↔ P.nx e st := by simp [exss]
@[simp] theorem w_scons : wpS (exss T cl (.cons sm ss) e st) P ↔ wpS (exs T cl sm e st) { P with nx := fun e s => wpS (exss T cl ss e s) P } := by
  simp only [exss]
  cases exs T cl sm e st <;> simp
@[simp] theorem w_asg {t : Tg} : wpS (exs T cl (.asg t a) e st) P ↔ wpR ((sem T cl a).v e st) (fun d s1 => ∃ e1, bindT t d e = some e1 ∧ P.nx e1 s1) (fun c fs s => P.ex c fs e s) := by
  simp only [exs, wpS_so]
  constructor <;> intro h <;> refine h.mono (fun a s h => ?_) fun _ _ _ h => h
  · split at h
    · exact ⟨_, by assumption, h⟩
    · exact h.elim
  · obtain ⟨e1, h1, h2⟩ := h
    rw [h1]; exact h2
@[simp] theorem w_asgO : wpS (exs T cl (.asgO i a) e st) P ↔ wpR ((sem T cl a).v e st) (fun d s1 => isOwn d = true ∧ P.nx (e.set i (.ow d)) s1) (fun c fs s => P.ex c fs e s) := by
  simp only [exs, wpS_so, wpS_ite]
  constructor <;> intro h <;> refine h.mono (fun a s h => ?_) fun _ _ _ h => h
  · split at h
    · exact ⟨by assumption, h⟩
    · exact h.elim
  · rw [if_pos h.1]; exact h.2
@[simp] theorem w_par {ts : List (Nat × Bool)} : wpS (exs T cl (.par ts es) e st) P ↔ wpR (semsP T cl ts es e st) (fun ds s1 => ∃ e1, parS ts ds e = some e1 ∧ P.nx e1 s1) (fun c fs s => P.ex c fs e s) := by
  simp only [exs, wpS_so]
  constructor <;> intro h <;> refine h.mono (fun a s h => ?_) fun _ _ _ h => h
  · split at h
    · exact ⟨_, by assumption, h⟩
    · exact h.elim
  · obtain ⟨e1, h1, h2⟩ := h
    rw [h1]; exact h2
@[simp] theorem w_pnil {R : List D → Sto → Prop} : wpR (semsP T cl [] .nil e st) R X ↔ R [] st := by simp [semsP]
@[simp] theorem w_pcons {R : List D → Sto → Prop} {j : Nat} {o : Bool} {ts : List (Nat × Bool)} : wpR (semsP T cl ((j, o) :: ts) (.cons a es) e st) R X ↔ wpR ((sem T cl a).v e st) (fun x s1 => if (o && !isOwn x) = true then False else wpR (semsP T cl ts es e s1) (fun xs s2 => R (x :: xs) s2) X) X := by simp [semsP]
@[simp] theorem w_appO : wpS (exs T cl (.appO i a) e st) P ↔ ∃ xs, e[i]? = some (.ow (.lst xs)) ∧ wpR ((sem T cl a).v e st) (fun d s1 => xs.length < big ∧ P.nx (e.set i (.ow (.lst (xs ++ [d])))) s1) (fun c fs s => P.ex c fs e s) := by
  simp only [exs]
  rcases h : e[i]? with _ | ⟨_ | d | d | ⟨x, y⟩⟩ <;> simp
  cases d <;> simp
@[simp] theorem w_drop : wpS (exs T cl (.drop a) e st) P ↔ wpR ((sem T cl a).v e st) (fun _ s1 => P.nx e s1) (fun c fs s => P.ex c fs e s) := by simp [exs]
@[simp] theorem w_ret : wpS (exs T cl (.ret a) e st) P ↔ wpR ((sem T cl a).v e st) (fun d s1 => P.rt d s1) (fun c fs s => P.ex c fs e s) := by simp [exs]
@[simp] theorem w_retN : wpS (exs T cl .retN e st) P ↔ P.rt .non st := by simp [exs]
@[simp] theorem w_iff {x y : Ss} : wpS (exs T cl (.iff c x y) e st) P ↔ wpR ((sem T cl c).b e st) (fun k s1 => if k = true then wpS (exss T cl x e s1) P else wpS (exss T cl y e s1) P) (fun c fs s => P.ex c fs e s) := by simp [exs]
@[simp] theorem w_brk : wpS (exs T cl .brk e st) P ↔ P.bk e st := by simp [exs]
@[simp] theorem w_cnt : wpS (exs T cl .cnt e st) P ↔ P.ct e st := by simp [exs]
@[simp] theorem w_pas : wpS (exs T cl .pas e st) P ↔ P.nx e st := by simp [exs]
@[simp] theorem w_frz : wpS (exs T cl (.frz i) e st) P ↔ ∃ d, (e[i]? = some (.ow d) ∧ P.nx (e.set i (.va d)) st) ∨ (e[i]? = some (.va d) ∧ P.nx e st) := by
  simp only [exs]
  rcases h : e[i]? with _ | ⟨_ | d | d | ⟨x, y⟩⟩ <;> simp
@[simp] theorem w_rai {n : Str} : wpS (exs T cl (.rai n es) e st) P ↔ ∃ fs, T.fld n = some fs ∧ wpR (sems T cl es e st) (fun ds s1 => fs.length = ds.length ∧ P.ex n (fs.zip ds) e s1) (fun c fs s => P.ex c fs e s) := by
  simp only [exs]
  cases T.fld n <;> simp
@[simp] theorem w_setR {k : Ex} : wpS (exs T cl (.setR a k b) e st) P ↔ wpR ((sem T cl b).v e st) (fun d s1 => wpR ((sem T cl a).v e s1) (fun o s2 => wpR ((sem T cl k).v e s2) (fun q s3 => ∃ n j xs m, o = .ref n ∧ q = .int j ∧ s3[n]? = some (.lst xs) ∧ ixN xs.length j = some m ∧ P.nx e (s3.set n (.lst (xs.set m d)))) (fun c fs s => P.ex c fs e s)) (fun c fs s => P.ex c fs e s)) (fun c fs s => P.ex c fs e s) := by
  simp only [exs, wpS_so]
  constructor <;> intro h <;> refine h.mono (fun a s h => h.mono (fun a s h => h.mono (fun a s h => ?_) fun _ _ _ h => h) fun _ _ _ h => h) fun _ _ _ h => h
  · split at h
    · split at h
      · split at h
        · exact ⟨_, _, _, _, rfl, rfl, by assumption, by assumption, h⟩
        · exact h.elim
      · exact h.elim
    · exact h.elim
  · obtain ⟨n, j, xs, m, rfl, rfl, h3, h4, h5⟩ := h
    simp only [h3, h4]
    exact h5
theorem w_for {t : Tg} {it : It} : wpS (exs T cl (.forr t it ss) e st) P ↔ wpR (semI T cl it e st) (fun ds s1 => wpS (forN t (fun e s => exss T cl ss e s) ds e s1) P) (fun c fs s => P.ex c fs e s) := by simp [exs]
theorem w_whl : wpS (exs T cl (.whl c ss) e st) P ↔ wpS (whileN (fun e s => (sem T cl c).b e s) (fun e s => exss T cl ss e s) fuelW e st) P := by simp [exs]
/-! loops -/
theorem wp_for {t : Tg} {bd : Enw → Sto → Out} (I : List D → Enw → Sto → Prop) : ∀ {ds : List D} {pre : List D} {e : Enw} {s : Sto}, I pre e s →
    (∀ pre d e s, I pre e s → ∃ e1, bindT t d e = some e1 ∧ wpS (bd e1 s) { P with nx := I (pre ++ [d]), ct := I (pre ++ [d]), bk := P.nx }) →
    (∀ e s, I (pre ++ ds) e s → P.nx e s) → wpS (forN t bd ds e s) P
  | [], pre, e, s, h0, _, hN => by
    unfold forN
    exact hN e s (by simpa using h0)
  | d :: ds, pre, e, s, h0, hs, hN => by
    unfold forN
    obtain ⟨e1, h1, h2⟩ := hs pre d e s h0
    rw [h1]
    dsimp only
    cases o : bd e1 s with
    | nx e' s' => rw [o] at h2; exact wp_for I h2 hs fun e s h => hN e s (by simpa using h)
    | ct e' s' => rw [o] at h2; exact wp_for I h2 hs fun e s h => hN e s (by simpa using h)
    | bk e' s' => rw [o] at h2; exact h2
    | rt d s => rw [o] at h2; exact h2
    | ex c fs e s => rw [o] at h2; exact h2
    | bad => rw [o] at h2; exact h2
end
end Nb
end
section
set_option Elab.async false
set_option linter.all false
set_option maxRecDepth 100000
/-! PlB: loops, calls -/
namespace Nb
open PySem PySem.Spec PyProof.Rows L2
section
variable {α : Type} {T : Tb} {cl : Cl} {e : Enw} {st s : Sto} {Q : D → Sto → Prop} {X : Str → List (Str × D) → Sto → Prop} {P : Po}
theorem wp_while {c : Enw → Sto → Res Bool} {b : Enw → Sto → Out} (I : Enw → Sto → Prop) (m : Enw → Sto → Nat) (hs : ∀ e s, I e s → wpR (c e s) (fun k s1 => if k = true then wpS (b e s1) { P with nx := fun e' s' => I e' s' ∧ m e' s' < m e s, ct := fun e' s' => I e' s' ∧ m e' s' < m e s, bk := P.nx } else P.nx e s1) (fun c fs s => P.ex c fs e s)) :
    ∀ (n : Nat) (e : Enw) (s : Sto), I e s → m e s < n → wpS (whileN c b n e s) P
  | 0, _, _, _, h => absurd h (Nat.not_lt_zero _)
  | n + 1, e, s, hi, hm => by
    unfold whileN
    rw [wpS_so]
    refine (hs e s hi).mono (fun k s1 h => ?_) fun _ _ _ h => h
    rw [wpS_ite]
    split at h
    · rename_i hk
      rw [if_pos hk]
      cases o : b e s1 with
      | nx e' s' => rw [o] at h; exact wp_while I m hs n e' s' h.1 (Nat.lt_of_lt_of_le h.2 (Nat.lt_succ_iff.mp hm))
      | ct e' s' => rw [o] at h; exact wp_while I m hs n e' s' h.1 (Nat.lt_of_lt_of_le h.2 (Nat.lt_succ_iff.mp hm))
      | bk e' s' => rw [o] at h; exact h
      | rt d s => rw [o] at h; exact h
      | ex c fs e s => rw [o] at h; exact h
      | bad => rw [o] at h; exact h
    · rename_i hk
      rw [if_neg hk]
      exact h
theorem lc_pure {f : D → Sto → Res (Option D)} {g : D → Option D} : ∀ {ds : List D}, (∀ d ∈ ds, f d s = .ok (g d) s) → lcLoop f ds s = .ok (ds.filterMap g) s
  | [], _ => rfl
  | d :: ds, h => by
    unfold lcLoop
    rw [h d List.mem_cons_self]
    simp only [Res.bind]
    rw [lc_pure fun d hd => h d (List.mem_cons_of_mem _ hd)]
    simp only [Res.bind, List.filterMap_cons]
    cases g d <;> rfl
theorem wp_lcp {f : D → Sto → Res (Option D)} {R : List D → Sto → Prop} (g : D → Option D) {ds : List D} (h : ∀ d ∈ ds, wpR (f d s) (fun o s' => o = g d ∧ s' = s) (fun _ _ _ => False)) (hQ : R (ds.filterMap g) s) : wpR (lcLoop f ds s) R X := by
  rw [lc_pure (g := g) fun d hd => wpR_eq.mp (h d hd)]
  exact hQ
/-- every item gives one -/
theorem wp_lcm {f : D → Sto → Res (Option D)} {R : List D → Sto → Prop} (g : D → D) {ds : List D} (h : ∀ d ∈ ds, wpR (f d s) (fun o s' => o = some (g d) ∧ s' = s) (fun _ _ _ => False)) (hQ : R (ds.map g) s) : wpR (lcLoop f ds s) R X := by
  refine wp_lcp (fun d => some (g d)) h ?_
  rw [show ds.filterMap (fun d => some (g d)) = ds.map g from by show ds.filterMap (some ∘ g) = _; rw [List.filterMap_eq_map]]
  exact hQ
theorem wp_lce {f : D → Sto → Res (Option D)} {R : List D → Sto → Prop} (I : List D → List D → Sto → Prop) (hs : ∀ pre out d s, I pre out s → wpR (f d s) (fun o s' => I (pre ++ [d]) (out ++ o.toList) s') (fun _ _ _ => False)) :
    ∀ {ds pre out : List D} {s : Sto}, I pre out s → (∀ r s, I (pre ++ ds) (out ++ r) s → R r s) → wpR (lcLoop f ds s) R X
  | [], pre, out, s, h0, hR => by
    unfold lcLoop
    exact hR [] s (by simpa using h0)
  | d :: ds, pre, out, s, h0, hR => by
    unfold lcLoop
    rw [wpR_bind]
    refine (hs pre out d s h0).to fun o s1 h1 => ?_
    rw [wpR_bind]
    refine wp_lce I hs (ds := ds) h1 fun r s2 h2 => ?_
    rw [wpR_ok]
    cases o with
    | none => exact hR r s2 (by simpa using h2)
    | some x => exact hR (x :: r) s2 (by simpa using h2)
theorem lc2_pure {f : D → Sto → Res (List D)} {g : D → List D} : ∀ {ds : List D}, (∀ d ∈ ds, f d s = .ok (g d) s) → lcLoop2 f ds s = .ok (ds.flatMap g) s
  | [], _ => rfl
  | d :: ds, h => by
    unfold lcLoop2
    rw [h d List.mem_cons_self]
    simp only [Res.bind]
    rw [lc2_pure fun d hd => h d (List.mem_cons_of_mem _ hd)]
    simp only [Res.bind, List.flatMap_cons]
theorem wp_lc2 {f : D → Sto → Res (List D)} {R : List D → Sto → Prop} (g : D → List D) {ds : List D} (h : ∀ d ∈ ds, wpR (f d s) (fun o s' => o = g d ∧ s' = s) (fun _ _ _ => False)) (hQ : R (ds.flatMap g) s) : wpR (lcLoop2 f ds s) R X := by
  rw [lc2_pure (g := g) fun d hd => wpR_eq.mp (h d hd)]
  exact hQ
@[simp] theorem w_turnC {w : List Nat} {t : Tg} {c : Enw → Sto → Res Bool} {el : Enw → Sto → Res D} {d : D} {R : Option D → Sto → Prop} :
    wpR (turnC w t c el e d s) R X ↔ ∃ e1, bindT t d (e.wipe w) = some e1 ∧ wpR (c e1 s) (fun b s' => if b = true then wpR (el e1 s') (fun x s'' => R (some x) s'') X else R none s') X := by
  unfold turnC
  cases bindT t d (e.wipe w) <;> simp
@[simp] theorem bindT_nm {i : Nat} {d : D} : bindT (.nm i) d e = some (e.set i (.va d)) := rfl
@[simp] theorem bindT_tp {is : List Nat} {ds : List D} : bindT (.tp is) (.tup ds) e = bindS is ds e := rfl
@[simp] theorem bindT_ctp {is : List Nat} {ds : List D} : bindT (.tp is) (.ctup ds) e = bindS is ds e := rfl
@[simp] theorem bindS_nil : bindS [] [] e = some e := rfl
@[simp] theorem bindS_cons {i : Nat} {is : List Nat} {d : D} {ds : List D} : bindS (i :: is) (d :: ds) e = bindS is ds (e.set i (.va d)) := rfl
@[simp] theorem parS_nil : parS [] [] e = some e := rfl
@[simp] theorem parS_cons {i : Nat} {o : Bool} {is : List (Nat × Bool)} {d : D} {ds : List D} : parS ((i, o) :: is) (d :: ds) e = parS is ds (e.set i (if o = true then .ow d else .va d)) := rfl
@[simp] theorem wipe_nil : Enw.wipe e [] = e := by cases e <;> rfl
@[simp] theorem wipe_cons {v : Nat} {vs : List Nat} : Enw.wipe e (v :: vs) = (Enw.wipe e vs).set v .no := by cases e <;> rfl
@[simp] theorem calD_pos {f : Str} {ps : List Str} {ds : List D} : wpR (calD T cl f ps [] ds st) Q X ↔ ds.length = ps.length ∧ wpR (cl f ds st) Q X := by
  unfold calD
  dsimp only
  by_cases h : ds.length = ps.length <;> simp [h]
theorem calD_kw {f k : Str} {ps ks : List Str} {ds es : List D} {p : List Nat} (h1 : T.kwp f (ds.length - (k :: ks).length) (k :: ks) = some p) (h2 : permL p ds = some es) (h3 : es.length = ps.length) : calD T cl f ps (k :: ks) ds st = cl f es st := by
  unfold calD
  dsimp only
  rw [h1]
  dsimp only
  rw [h2]
  dsimp only
  rw [if_pos h3]
end
section
/-! values -/
@[simp] theorem kd_non : Kon.d .non = .non := rfl
@[simp] theorem kd_bl {b : Bool} : Kon.d (.bl b) = .bl b := rfl
@[simp] theorem kd_int {i : Int} : Kon.d (.int i) = .int i := rfl
@[simp] theorem kd_str {x : Str} : Kon.d (.str x) = .str x := rfl
@[simp] theorem un_neg' {i : Int} : unD .neg (.int i) = some (.int (-i)) := rfl
@[simp] theorem bn_add {i j : Int} : binD .add (.int i) (.int j) = some (.int (i + j)) := rfl
@[simp] theorem bn_sub {i j : Int} : binD .sub (.int i) (.int j) = some (.int (i - j)) := rfl
@[simp] theorem cm_lt {s : Sto} {i j : Int} : cmpD s .lt (.int i) (.int j) = some (decide (i < j)) := rfl
@[simp] theorem cm_gt {s : Sto} {i j : Int} : cmpD s .gt (.int i) (.int j) = some (decide (j < i)) := rfl
@[simp] theorem cm_le {s : Sto} {i j : Int} : cmpD s .le (.int i) (.int j) = some (decide (i ≤ j)) := rfl
@[simp] theorem cm_ge {s : Sto} {i j : Int} : cmpD s .ge (.int i) (.int j) = some (decide (j ≤ i)) := rfl
@[simp] theorem cm_eq {s : Sto} {i j : Int} : cmpD s .eq (.int i) (.int j) = some (i == j) := rfl
@[simp] theorem cm_ne {s : Sto} {i j : Int} : cmpD s .ne (.int i) (.int j) = some (!(i == j)) := rfl
@[simp] theorem tr_bl {s : Sto} {b : Bool} : truD s (.bl b) = some b := rfl
@[simp] theorem sq_tup {s : Sto} {xs : List D} : seqD s (.tup xs) = some xs := rfl
@[simp] theorem sq_lst {s : Sto} {xs : List D} : seqD s (.lst xs) = some xs := rfl
@[simp] theorem ln_tup {s : Sto} {xs : List D} : biD s .len [.tup xs] = some (.int xs.length) := rfl
@[simp] theorem ln_ctup {s : Sto} {xs : List D} : biD s .len [.ctup xs] = some (.int xs.length) := rfl
@[simp] theorem ln_lst {s : Sto} {xs : List D} : biD s .len [.lst xs] = some (.int xs.length) := rfl
@[simp] theorem tp_lst {s : Sto} {xs : List D} : biD s .tup [.lst xs] = some (.tup xs) := rfl
@[simp] theorem tp_tup {s : Sto} {xs : List D} : biD s .tup [.tup xs] = some (.tup xs) := rfl
@[simp] theorem ls_tup {s : Sto} {xs : List D} : biD s .lst [.tup xs] = some (.lst xs) := rfl
@[simp] theorem it_tup {xs : List D} : itemsD (.tup xs) = some xs := rfl
@[simp] theorem it_ctup {xs : List D} : itemsD (.ctup xs) = some xs := rfl
@[simp] theorem it_lst {xs : List D} : itemsD (.lst xs) = some xs := rfl
@[simp] theorem isi_non_int  : isiD (.non) ["int"] = some false := by simp [isiD, tyD, isiT]
@[simp] theorem isi_non_bool  : isiD (.non) ["bool"] = some false := by simp [isiD, tyD, isiT]
@[simp] theorem isi_non_str  : isiD (.non) ["str"] = some false := by simp [isiD, tyD, isiT]
@[simp] theorem isi_non_tuple  : isiD (.non) ["tuple"] = some false := by simp [isiD, tyD, isiT]
@[simp] theorem isi_non_list  : isiD (.non) ["list"] = some false := by simp [isiD, tyD, isiT]
@[simp] theorem isi_bl_int {b : Bool} : isiD (.bl b) ["int"] = some true := by simp [isiD, tyD, isiT]
@[simp] theorem isi_bl_bool {b : Bool} : isiD (.bl b) ["bool"] = some true := by simp [isiD, tyD, isiT]
@[simp] theorem isi_bl_str {b : Bool} : isiD (.bl b) ["str"] = some false := by simp [isiD, tyD, isiT]
@[simp] theorem isi_bl_tuple {b : Bool} : isiD (.bl b) ["tuple"] = some false := by simp [isiD, tyD, isiT]
@[simp] theorem isi_bl_list {b : Bool} : isiD (.bl b) ["list"] = some false := by simp [isiD, tyD, isiT]
@[simp] theorem isi_int_int {i : Int} : isiD (.int i) ["int"] = some true := by simp [isiD, tyD, isiT]
@[simp] theorem isi_int_bool {i : Int} : isiD (.int i) ["bool"] = some false := by simp [isiD, tyD, isiT]
@[simp] theorem isi_int_str {i : Int} : isiD (.int i) ["str"] = some false := by simp [isiD, tyD, isiT]
@[simp] theorem isi_int_tuple {i : Int} : isiD (.int i) ["tuple"] = some false := by simp [isiD, tyD, isiT]
@[simp] theorem isi_int_list {i : Int} : isiD (.int i) ["list"] = some false := by simp [isiD, tyD, isiT]
@[simp] theorem isi_str_int {x : Str} : isiD (.str x) ["int"] = some false := by simp [isiD, tyD, isiT]
@[simp] theorem isi_str_bool {x : Str} : isiD (.str x) ["bool"] = some false := by simp [isiD, tyD, isiT]
@[simp] theorem isi_str_str {x : Str} : isiD (.str x) ["str"] = some true := by simp [isiD, tyD, isiT]
@[simp] theorem isi_str_tuple {x : Str} : isiD (.str x) ["tuple"] = some false := by simp [isiD, tyD, isiT]
@[simp] theorem isi_str_list {x : Str} : isiD (.str x) ["list"] = some false := by simp [isiD, tyD, isiT]
@[simp] theorem isi_tup_int {xs : List D} : isiD (.tup xs) ["int"] = some false := by simp [isiD, tyD, isiT]
@[simp] theorem isi_tup_bool {xs : List D} : isiD (.tup xs) ["bool"] = some false := by simp [isiD, tyD, isiT]
@[simp] theorem isi_tup_str {xs : List D} : isiD (.tup xs) ["str"] = some false := by simp [isiD, tyD, isiT]
@[simp] theorem isi_tup_tuple {xs : List D} : isiD (.tup xs) ["tuple"] = some true := by simp [isiD, tyD, isiT]
@[simp] theorem isi_tup_list {xs : List D} : isiD (.tup xs) ["list"] = some false := by simp [isiD, tyD, isiT]
@[simp] theorem isi_ctup_int {xs : List D} : isiD (.ctup xs) ["int"] = some false := by simp [isiD, tyD, isiT]
@[simp] theorem isi_ctup_bool {xs : List D} : isiD (.ctup xs) ["bool"] = some false := by simp [isiD, tyD, isiT]
@[simp] theorem isi_ctup_str {xs : List D} : isiD (.ctup xs) ["str"] = some false := by simp [isiD, tyD, isiT]
@[simp] theorem isi_ctup_tuple {xs : List D} : isiD (.ctup xs) ["tuple"] = some true := by simp [isiD, tyD, isiT]
@[simp] theorem isi_ctup_list {xs : List D} : isiD (.ctup xs) ["list"] = some false := by simp [isiD, tyD, isiT]
@[simp] theorem isi_lst_int {xs : List D} : isiD (.lst xs) ["int"] = some false := by simp [isiD, tyD, isiT]
@[simp] theorem isi_lst_bool {xs : List D} : isiD (.lst xs) ["bool"] = some false := by simp [isiD, tyD, isiT]
@[simp] theorem isi_lst_str {xs : List D} : isiD (.lst xs) ["str"] = some false := by simp [isiD, tyD, isiT]
@[simp] theorem isi_lst_tuple {xs : List D} : isiD (.lst xs) ["tuple"] = some false := by simp [isiD, tyD, isiT]
@[simp] theorem isi_lst_list {xs : List D} : isiD (.lst xs) ["list"] = some true := by simp [isiD, tyD, isiT]
end
end Nb
end
section
set_option Elab.async false
set_option linter.all false
set_option maxRecDepth 100000
/-! PlC: plain facts -/
namespace Nb
open PySem PySem.Spec PyProof.Rows L2
inductive Ans where | ok (d : D) | ex (c f : Str) (d : D)
def Ans.res (a : Ans) (s : Sto) : Res D := match a with
  | .ok d => .ok d s
  | .ex c f d => .exc c [(f, d)] s
theorem eq_res {r : Res D} {a : Ans} {s : Sto} (h : wpR r (fun d s' => a = .ok d ∧ s' = s) (fun c fs s' => ∃ f d, a = .ex c f d ∧ fs = [(f, d)] ∧ s' = s)) : r = a.res s := by
  cases r with
  | ok d s' => obtain ⟨rfl, rfl⟩ := h; rfl
  | exc c fs s' => obtain ⟨f, d, rfl, rfl, rfl⟩ := h; rfl
  | bad => exact h.elim
@[simp] theorem wpR_res_ok {d : D} {s : Sto} {Q : D → Sto → Prop} {X : Str → List (Str × D) → Sto → Prop} : wpR ((Ans.ok d).res s) Q X ↔ Q d s := Iff.rfl
@[simp] theorem wpR_res_ex {c f : Str} {d : D} {s : Sto} {Q : D → Sto → Prop} {X : Str → List (Str × D) → Sto → Prop} : wpR ((Ans.ex c f d).res s) Q X ↔ X c [(f, d)] s := Iff.rfl
def intB : D → Bool | .int _ => true | _ => false
def plainD : D → Bool | .non => true | .bl _ => true | .int _ => true | .str _ => true | .tup _ => true | .ctup _ => true | .lst _ => true | _ => false
def belB (d : D) (b : Int) : Bool := match d with
  | .int i => decide (0 ≤ i) && decide (i < b)
  | _ => false
def bitsB (d : D) : Bool := match tupD d with
  | some xs => xs.all fun x => belB x 2
  | none => false
/-- a value whose items are plain too -/
def pl2 (d : D) : Bool := plainD d && (match tupD d with
  | some xs => xs.all plainD && decide (xs.length ≤ 1000)
  | none => true)
theorem all_map {s : Sto} {α : Type} {xs : List α} {f : α → Bool} : biD s .all [.lst (xs.map fun x => .bl (f x))] = some (.bl (xs.all f)) := by
  have h : ∀ ys : List α, asBls (ys.map fun x => D.bl (f x)) = some (ys.map f) := by
    intro ys
    induction ys with
    | nil => rfl
    | cons y ys ih => simp [asBls, ih]
  simp [biD, lstD, derefD, h]
  try rfl
theorem any_map {s : Sto} {α : Type} {xs : List α} {f : α → Bool} : biD s .any [.lst (xs.map fun x => .bl (f x))] = some (.bl (xs.any f)) := by
  have h : ∀ ys : List α, asBls (ys.map fun x => D.bl (f x)) = some (ys.map f) := by
    intro ys
    induction ys with
    | nil => rfl
    | cons y ys ih => simp [asBls, ih]
  simp [biD, lstD, derefD, h]
  try rfl
@[simp] theorem few_ok {ds : List D} : few ds = some ds ↔ ds.length ≤ big := by
  unfold few
  split <;> simp [*]
theorem few_of {ds : List D} (h : ds.length ≤ big) : few ds = some ds := few_ok.mpr h
theorem big_eq : big = 16777216 := rfl
theorem succ_of {k n : Nat} (h : k + 1 ≤ n) : ∃ m, n = m + 1 ∧ k ≤ m := ⟨n - 1, by omega, by omega⟩
section
variable {α : Type} {T : Tb} {cl : Cl} {e : Enw} {st s : Sto} {Q : D → Sto → Prop} {X : Str → List (Str × D) → Sto → Prop} {P : Po}
theorem wp_fori {t : Tg} {bd : Enw → Sto → Out} {ds : List D} (I : Nat → Enw → Sto → Prop) (h0 : I 0 e s)
    (hs : ∀ i d e s, ds[i]? = some d → I i e s → ∃ e1, bindT t d e = some e1 ∧ wpS (bd e1 s) { P with nx := I (i + 1), ct := I (i + 1), bk := P.nx })
    (hN : ∀ e s, I ds.length e s → P.nx e s) : wpS (forN t bd ds e s) P := by
  have key : ∀ (xs : List D) (k : Nat) (e : Enw) (s : Sto), ds.drop k = xs → k + xs.length = ds.length → I k e s → wpS (forN t bd xs e s) P := by
    intro xs
    induction xs with
    | nil =>
      intro k e s _ h2 h3
      unfold forN
      refine hN e s ?_
      rw [← h2]; exact h3
    | cons d xs ih =>
      intro k e s h1 h2 h3
      have hd : ds[k]? = some d := by
        have := congrArg (fun l => l[0]?) h1
        simpa using this
      have hx : ds.drop (k + 1) = xs := by
        have := congrArg List.tail h1
        simpa using this
      obtain ⟨e1, q1, q2⟩ := hs k d e s hd h3
      unfold forN
      rw [q1]
      dsimp only
      have hl : k + 1 + xs.length = ds.length := by rw [List.length_cons] at h2; omega
      cases o : bd e1 s with
      | nx e' s' => rw [o] at q2; exact ih (k + 1) e' s' hx hl q2
      | ct e' s' => rw [o] at q2; exact ih (k + 1) e' s' hx hl q2
      | bk e' s' => rw [o] at q2; exact q2
      | rt d s => rw [o] at q2; exact q2
      | ex c fs e s => rw [o] at q2; exact q2
      | bad => rw [o] at q2; exact q2
  exact key ds 0 e s rfl (by simp) h0
theorem wp_lci {f : D → Sto → Res (Option D)} {R : List D → Sto → Prop} {ds : List D} (I : Nat → List D → Sto → Prop) (h0 : I 0 [] s)
    (hs : ∀ i out d s, ds[i]? = some d → I i out s → wpR (f d s) (fun o s' => I (i + 1) (out ++ o.toList) s') (fun _ _ _ => False))
    (hR : ∀ r s, I ds.length r s → R r s) : wpR (lcLoop f ds s) R X := by
  have key : ∀ (xs : List D) (k : Nat) (out : List D) (s : Sto), ds.drop k = xs → k + xs.length = ds.length → I k out s → wpR (lcLoop f xs s) (fun r s' => I ds.length (out ++ r) s') X := by
    intro xs
    induction xs with
    | nil =>
      intro k out s _ h2 h3
      unfold lcLoop
      rw [wpR_ok, ← h2, List.append_nil]
      exact h3
    | cons d xs ih =>
      intro k out s h1 h2 h3
      have hd : ds[k]? = some d := by
        have := congrArg (fun l => l[0]?) h1
        simpa using this
      have hx : ds.drop (k + 1) = xs := by
        have := congrArg List.tail h1
        simpa using this
      have hl : k + 1 + xs.length = ds.length := by rw [List.length_cons] at h2; omega
      unfold lcLoop
      rw [wpR_bind]
      refine (hs k out d s hd h3).to fun o s1 q => ?_
      rw [wpR_bind]
      refine (ih (k + 1) _ s1 hx hl q).mono (fun r s2 q2 => ?_) fun _ _ _ h => h
      rw [wpR_ok]
      cases o with
      | none => simpa using q2
      | some x => simpa using q2
  refine (key ds 0 [] s rfl (by simp) h0).mono (fun r s h => hR r s (by simpa using h)) fun _ _ _ h => h
theorem enuD_get {xs : List D} {i : Nat} {d : D} (h : (enuD xs)[i]? = some d) : ∃ x, xs[i]? = some x ∧ d = .tup [.int (i : Int), x] := by
  unfold enuD at h
  rw [List.getElem?_map] at h
  obtain ⟨p, hp, rfl⟩ := Option.map_eq_some_iff.mp h
  rw [List.getElem?_zipIdx] at hp
  obtain ⟨x, hx, rfl⟩ := Option.map_eq_some_iff.mp hp
  exact ⟨x, hx, by simp⟩
@[simp] theorem enuD_length {xs : List D} : (enuD xs).length = xs.length := by unfold enuD; simp
theorem rngD_nat {n : Nat} (h : n ≤ 1000000) : rngD [.int (n : Int)] = some (rngL 0 n) := by
  unfold rngD
  dsimp only
  rw [if_pos (by omega)]
  simp
theorem rngL_get {a : Int} {n i : Nat} {d : D} (h : (rngL a n)[i]? = some d) : i < n ∧ d = .int (a + i) := by
  unfold rngL at h
  rw [List.getElem?_map] at h
  obtain ⟨p, hp, rfl⟩ := Option.map_eq_some_iff.mp h
  obtain ⟨h1, h2⟩ := List.getElem?_eq_some_iff.mp hp
  rw [List.getElem_range] at h2
  subst h2
  exact ⟨by simpa using h1, rfl⟩
@[simp] theorem rngL_length {a : Int} {n : Nat} : (rngL a n).length = n := by unfold rngL; simp
end
theorem mul_small {a b : Int} (h1 : -(2 ^ 64) < b) (h2 : b < 2 ^ 64) : binD .mul (.int a) (.int b) = some (.int (a * b)) := by
  show (Nb.binI .mul a b).map D.int = _
  unfold Nb.binI
  dsimp only
  rw [if_pos (by unfold cMul; simp; omega)]
  rfl
theorem mul_smallL {a b : Int} (h1 : -(2 ^ 64) < a) (h2 : a < 2 ^ 64) : binD .mul (.int a) (.int b) = some (.int (a * b)) := by
  show (Nb.binI .mul a b).map D.int = _
  unfold Nb.binI
  dsimp only
  rw [if_pos (by unfold cMul; simp; omega)]
  rfl
@[simp] theorem intD_int {i : Int} : Nb.intD (.int i) = some i := rfl
theorem wp_lcmm {ι : Type} {h : ι → D} {s : Sto} {X : Str → List (Str × D) → Sto → Prop} {f : D → Sto → Res (Option D)} {R : List D → Sto → Prop} (g : ι → D) {rows : List ι} (H : ∀ r ∈ rows, wpR (f (h r) s) (fun o s' => o = some (g r) ∧ s' = s) (fun _ _ _ => False)) (hQ : R (rows.map g) s) :
    wpR (lcLoop f (rows.map h) s) R X := by
  have key : ∀ rows : List ι, (∀ r ∈ rows, f (h r) s = .ok (some (g r)) s) → lcLoop f (rows.map h) s = .ok (rows.map g) s := by
    intro rows
    induction rows with
    | nil => intro _; rfl
    | cons r rows ih =>
      intro H
      rw [List.map_cons]
      unfold lcLoop
      rw [H r List.mem_cons_self]
      simp only [Res.bind]
      rw [ih fun r hr => H r (List.mem_cons_of_mem _ hr)]
      rfl
  rw [key rows fun r hr => wpR_eq.mp (H r hr)]
  exact hQ
/-- what only returns -/
theorem wpS.ret {o : Out} {P : Po} (h : wpS o ⟨fun _ _ => False, P.rt, fun _ _ _ _ => False, fun _ _ => False, fun _ _ => False⟩) : wpS o P := h.mono (fun _ _ h => h.elim) (fun _ _ h => h) (fun _ _ _ _ h => h.elim) (fun _ _ h => h.elim) (fun _ _ h => h.elim)
/-- what only goes on -/
theorem wpS.nxt {o : Out} {P : Po} {N : Enw → Sto → Prop} (h : wpS o ⟨N, fun _ _ => False, fun _ _ _ _ => False, fun _ _ => False, fun _ _ => False⟩) (i : ∀ e s, N e s → P.nx e s) : wpS o P := h.mono i (fun _ _ h => h.elim) (fun _ _ _ _ h => h.elim) (fun _ _ h => h.elim) (fun _ _ h => h.elim)
end Nb
end
section
set_option Elab.async false
set_option linter.all false
set_option maxRecDepth 100000
set_option maxHeartbeats 4000000
/-! PlD: plain facts for any law: sequences, bits, settings, rows of numbers, what repr takes, the deal -/
namespace Nb
open PySem PySem.Spec PyProof.Rows L2
/-- is the value a tuple of 1, 2, 4 .. 256 bits -/
def tabSizes : List Nat := [1, 2, 4, 8, 16, 32, 64, 128, 256]
/-- the first item that is no bit -/
def badBit (xs : List D) : Option Nat := xs.findIdx? fun x => !belB x 2
def tabA (d : D) : Ans := match tupD d with
  | some xs => if xs.length ∈ tabSizes then (match badBit xs with
      | none => .ok .non
      | some k => .ex "InvalidTable" "at" (.int k)) else .ex "InvalidTable" "at" (.int (-1))
  | none => .ex "InvalidTable" "at" (.int (-1))
theorem sizes_in {s : Sto} {n : Nat} : cmpD s .nin (.int n) (.ctup [(.int 1), (.int 2), (.int 4), (.int 8), (.int 16), (.int 32), (.int 64), (.int 128), (.int 256)]) = some (!decide (n ∈ tabSizes)) := by
  have h : ∀ k : Nat, eqv (.int (k : Int)) (.int (n : Int)) = decide (n = k) := by
    intro k
    unfold eqv
    by_cases e : n = k
    · subst e; simp
    · have : ¬ (k : Int) = (n : Int) := by omega
      simp [e, this]
  have h2 : ∀ (l : List Nat), (l.map fun k : Nat => D.int (k : Int)).any (fun y => eqv y (.int (n : Int))) = decide (n ∈ l) := by
    intro l
    induction l with
    | nil => simp
    | cons k l ih => rw [List.map_cons, List.any_cons, ih, h]; by_cases e1 : n = k <;> by_cases e2 : n ∈ l <;> simp [e1, e2]
  have e : inD s (.int (n : Int)) (.ctup (tabSizes.map fun k : Nat => D.int (k : Int))) = some (decide (n ∈ tabSizes)) := by
    unfold inD
    dsimp only [derefD]
    rw [if_pos (by rfl), h2]
  exact congrArg (Option.map (!·)) e
theorem ixN_nat {n i : Nat} : ixN n (i : Int) = if i < n then some i else none := by
  unfold ixN
  rw [if_pos (by omega)]
  by_cases h : i < n
  · rw [if_pos (by omega), if_pos h]; simp
  · rw [if_neg (by omega), if_neg h]
theorem atI_cast {α : Type} {xs : List α} {i : Nat} : atI xs (i : Int) = xs[i]? := by
  unfold atI
  rw [ixN_nat]
  by_cases h : i < xs.length
  · rw [if_pos h]; rfl
  · rw [if_neg h, List.getElem?_eq_none (by omega)]; rfl
theorem idx_t {s : Sto} {v : D} {xs : List D} (h : tupD v = some xs) {i : Nat} : idxD s v (.int (i : Int)) = xs[i]? := by
  cases v <;> first | (cases h; done) | (cases h; exact atI_cast)
theorem len_t {s : Sto} {v : D} {xs : List D} (h : tupD v = some xs) : biD s .len [v] = some (.int xs.length) := by
  cases v <;> first | (cases h; done) | (cases h; simp)
theorem isi_t {v : D} {xs : List D} (h : tupD v = some xs) : isiD v ["tuple"] = some true := by
  cases v <;> first | (cases h; done) | simp
theorem isi_nt {v : D} (hp : plainD v = true) (h : tupD v = none) : isiD v ["tuple"] = some false := by
  cases v <;> first | (cases h; done) | (cases hp; done) | simp
theorem items_t {v : D} {xs : List D} (h : tupD v = some xs) : itemsD v = some xs := by
  cases v <;> first | (cases h; done) | (cases h; rfl)
def lexI : List Int → List Int → Bool
  | [], [] => false
  | [], _ :: _ => true
  | _ :: _, [] => false
  | a :: as, b :: bs => if a = b then lexI as bs else decide (a < b)
theorem lexI_eq : ∀ {as bs : List Int}, ltInts (as.map .int) (bs.map .int) = some (lexI as bs)
  | [], [] => rfl
  | [], _ :: _ => rfl
  | _ :: _, [] => rfl
  | a :: as, b :: bs => by
    simp only [List.map_cons, ltInts, lexI]
    split
    · exact lexI_eq
    · rfl
theorem allInts_map : ∀ {as : List Int}, allInts (as.map .int) = true
  | [] => rfl
  | _ :: as => allInts_map (as := as)
theorem asI_map : ∀ {as : List Int}, asInts (as.map .int) = some as
  | [] => rfl
  | a :: as => by simp [asInts, asI_map]
theorem bits_of {d : D} (h : bitsB d = true) : tupD d = some ((intsD d).map .int) ∧ ∀ n ∈ intsD d, n = 0 ∨ n = 1 := by
  unfold bitsB at h
  cases ht : tupD d with
  | none => rw [ht] at h; cases h
  | some xs =>
    rw [ht] at h
    have key : ∀ ys : List D, (ys.all fun x => belB x 2) = true → ∃ ns : List Int, ys = ns.map .int ∧ ∀ n ∈ ns, n = 0 ∨ n = 1 := by
      intro ys
      induction ys with
      | nil => intro _; exact ⟨[], rfl, by simp⟩
      | cons y ys ih =>
        intro h
        rw [List.all_cons] at h
        obtain ⟨h1, h2⟩ := b2 h
        obtain ⟨ns, rfl, h3⟩ := ih h2
        cases y <;> first | (unfold belB at h1; cases h1; done) | skip
        rename_i i
        unfold belB at h1
        obtain ⟨h4, h5⟩ := b2 h1
        have h4 := of_decide_eq_true h4
        have h5 := of_decide_eq_true h5
        refine ⟨i :: ns, rfl, fun n hn => ?_⟩
        rcases List.mem_cons.mp hn with rfl | hn
        · omega
        · exact h3 n hn
    obtain ⟨ns, rfl, h3⟩ := key xs h
    have e : intsD d = ns := by unfold intsD; rw [ht]; simp [asI_map]
    rw [e]
    exact ⟨rfl, h3⟩
theorem ltD_t {a b : D} {xs ys : List D} (h1 : tupD a = some xs) (h2 : tupD b = some ys) : ltD a b = if (allInts xs && allInts ys) = true then ltInts xs ys else none := by
  cases a <;> first | (cases h1; done) | (cases b <;> first | (cases h2; done) | (cases h1; cases h2; rfl))
theorem lt_bits {s : Sto} {a b : D} (ha : bitsB a = true) (hb : bitsB b = true) : cmpD s .lt a b = some (lexI (intsD a) (intsD b)) := by
  have h1 := (bits_of ha).1
  have h2 := (bits_of hb).1
  show ltD a b = _
  rw [ltD_t h1 h2, allInts_map, allInts_map]
  exact lexI_eq
def folB (xs : List D) (i : Nat) : Bool := match xs[i]? with
  | none => false
  | some e => bitsB e && !(intsD e).isEmpty && (decide (i = 0) || ((intsD e).length == (intsD (xs.getD 0 .non)).length && lexI (intsD (xs.getD (i - 1) .non)) (intsD e)))
/-- the first wrong place of a value that should be an ascending tuple of settings -/
def lotA (d : D) : Ans := match tupD d with
  | some xs => if xs = [] then .ex "InvalidLot" "at" (.int (-1)) else (match (List.range xs.length).find? fun i => !folB xs i with
      | none => .ok .non
      | some k => .ex "InvalidLot" "at" (.int k))
  | none => .ex "InvalidLot" "at" (.int (-1))
/-- all entries are plain -/
def pl3 (d : D) : Bool := plainD d && (match tupD d with
  | some xs => xs.all pl2 && decide (xs.length ≤ 1000)
  | none => true)
theorem fol_bits {xs : List D} {i : Nat} (h : folB xs i = true) : bitsB (xs.getD i .non) = true := by
  unfold folB at h
  cases hx : xs[i]? with
  | none => rw [hx] at h; cases h
  | some e =>
    rw [hx] at h
    rw [List.getD_eq_getElem?_getD, hx]
    exact (b2 (b2 h).1).1
def S (many i : Nat) : List Int := (List.range many).map fun j => if i.testBit (many - 1 - j) then 1 else 0
def tupI (bs : List Int) : D := .tup (bs.map .int)
def setT (many i : Nat) : D := tupI (S many i)
def allS (many : Nat) : List D := (List.range (2 ^ many)).map (setT many)

theorem S_succ {m i : Nat} : S (m + 1) i = (if i.testBit m then 1 else 0) :: S m i := by
  unfold S
  rw [List.range_succ_eq_map, List.map_cons, List.map_map]
  congr 1
  refine List.map_congr_left fun j hj => ?_
  have hj := List.mem_range.mp hj
  show (if i.testBit (m + 1 - 1 - (j + 1)) = true then (1 : Int) else 0) = _
  rw [show m + 1 - 1 - (j + 1) = m - 1 - j by omega]
theorem S_mod {m i : Nat} : S m (i % 2 ^ m) = S m i := by
  unfold S
  refine List.map_congr_left fun j hj => ?_
  have hj := List.mem_range.mp hj
  rw [Nat.testBit_mod_two_pow]
  have : m - 1 - j < m := by omega
  simp [this]
theorem S_facts {m : Nat} (hm : m ≤ 8) {i : Nat} (hi : i < 2 ^ m) : (S m i).length = m ∧ (∀ b ∈ S m i, b = 0 ∨ b = 1) := by
  refine ⟨by unfold S; simp, fun b hb => ?_⟩
  unfold S at hb
  obtain ⟨j, _, rfl⟩ := List.mem_map.mp hb
  split <;> simp
theorem testBit_top {m i : Nat} (hi : i < 2 ^ (m + 1)) : i = (if i.testBit m = true then 2 ^ m else 0) + i % 2 ^ m := by
  have h1 := Nat.div_add_mod i (2 ^ m)
  have h2 : i / 2 ^ m < 2 := by
    rw [Nat.div_lt_iff_lt_mul (Nat.two_pow_pos m)]
    rw [Nat.pow_succ] at hi; omega
  rw [Nat.testBit_eq_decide_div_mod_eq]
  have h3 : i / 2 ^ m = 0 ∨ i / 2 ^ m = 1 := by
    revert h2
    generalize i / 2 ^ m = q
    omega
  rcases h3 with e | e
  · rw [e]
    rw [e, Nat.mul_zero] at h1
    simp
    omega
  · rw [e]
    rw [e, Nat.mul_one] at h1
    simp
    omega
theorem lexI_irr : ∀ {a : List Int}, lexI a a = false
  | [] => rfl
  | x :: a => by unfold lexI; rw [if_pos rfl]; exact lexI_irr
theorem S_cmp : ∀ (m i j : Nat), i < 2 ^ m → j < 2 ^ m → lexI (S m i) (S m j) = decide (i < j)
  | 0, i, j, hi, hj => by
    have : i = 0 := by simpa using hi
    have : j = 0 := by simpa using hj
    subst i; subst j; rfl
  | m + 1, i, j, hi, hj => by
    have e1 := testBit_top hi
    have e2 := testBit_top hj
    have l1 := Nat.mod_lt i (Nat.two_pow_pos m)
    have l2 := Nat.mod_lt j (Nat.two_pow_pos m)
    have ih := S_cmp m (i % 2 ^ m) (j % 2 ^ m) l1 l2
    rw [S_mod, S_mod] at ih
    rw [S_succ, S_succ]
    unfold lexI
    rw [ih]
    cases h1 : i.testBit m <;> cases h2 : j.testBit m <;> rw [h1] at e1 <;> rw [h2] at e2 <;> simp at e1 e2 ⊢ <;> omega
theorem S_inj {m : Nat} (hm : m ≤ 8) {i j : Nat} (hi : i < 2 ^ m) (hj : j < 2 ^ m) : S m i = S m j ↔ i = j := by
  refine ⟨fun h => ?_, fun h => by rw [h]⟩
  have h1 := S_cmp m i j hi hj
  have h2 := S_cmp m j i hj hi
  rw [h, lexI_irr] at h1
  rw [h, lexI_irr] at h2
  have := of_decide_eq_false h1.symm
  have := of_decide_eq_false h2.symm
  omega
theorem S_lt {m : Nat} (hm : m ≤ 8) {i j : Nat} (hj : j < 2 ^ m) (h : i < j) : lexI (S m i) (S m j) = true := by
  rw [S_cmp m i j (by omega) hj]; exact decide_eq_true h
theorem S_ge {m : Nat} (hm : m ≤ 8) {i j : Nat} (hj : j < 2 ^ m) (h : i ≤ j) : lexI (S m j) (S m i) = false := by
  rw [S_cmp m j i hj (by omega)]; exact decide_eq_false (by omega)
theorem S_num : ∀ (m i : Nat) (a : Int), (S m i).foldl (fun a b => a * 2 + b) a = a * 2 ^ m + (i % 2 ^ m : Nat)
  | 0, i, a => by simp [S, Nat.mod_one]
  | m + 1, i, a => by
    rw [S_succ, List.foldl_cons, S_num m i]
    have e := testBit_top (m := m) (i := i % 2 ^ (m + 1)) (Nat.mod_lt _ (Nat.two_pow_pos _))
    have e3 : i % 2 ^ (m + 1) % 2 ^ m = i % 2 ^ m := Nat.mod_mod_of_dvd i ⟨2, by rw [Nat.pow_succ]⟩
    have e4 : (i % 2 ^ (m + 1)).testBit m = i.testBit m := by rw [Nat.testBit_mod_two_pow]; simp
    rw [e3, e4] at e
    rw [e]
    obtain ⟨p, hp⟩ : ∃ p : Int, p = 2 ^ m := ⟨_, rfl⟩
    have hp2 : ((2 ^ m : Nat) : Int) = p := by rw [hp]; simp
    rw [Int.pow_succ, ← hp]
    cases i.testBit m
    · simp; rw [Int.mul_assoc, Int.mul_comm 2 p]
    · simp [hp2]; rw [Int.add_mul, Int.mul_assoc, Int.mul_comm 2 p]; omega
def lenT (d : D) : Nat := ((tupD d).getD []).length
def inpA (d : D) : Ans := match tabA d with
  | .ok _ => .ok (.int (tabSizes.idxOf (lenT d) : Nat))
  | a => a
theorem tabA_ok {d v : D} (h : tabA d = .ok v) : v = .non ∧ ∃ xs, tupD d = some xs ∧ xs.length ∈ tabSizes ∧ badBit xs = none := by
  unfold tabA at h
  cases ht : tupD d with
  | none => rw [ht] at h; cases h
  | some xs =>
    rw [ht] at h
    dsimp only at h
    split at h
    · rename_i hl
      cases hb : badBit xs with
      | none => rw [hb] at h; cases h; exact ⟨rfl, xs, rfl, hl, hb⟩
      | some k => rw [hb] at h; cases h
    · cases h
theorem gix_sizes {k : Nat} (h : k ∈ tabSizes) : gixD [1, 2, 4, 8, 16, 32, 64, 128, 256] (.int (k : Int)) = some (.int (tabSizes.idxOf k : Nat)) := by
  simp only [tabSizes, List.mem_cons, List.not_mem_nil, or_false] at h
  rcases h with rfl | rfl | rfl | rfl | rfl | rfl | rfl | rfl | rfl <;> rfl
def niA (d : D) (a b : Int) : Ans := match inpA d with
  | .ok (.int k) => if a ≤ k ∧ k ≤ b then .ok .non else .ex "InvalidSize" "word" (.str "inputs")
  | x => x
theorem inpA_ok {d v : D} (h : inpA d = .ok v) : v = .int (tabSizes.idxOf (lenT d) : Nat) ∧ tabA d = .ok .non := by
  unfold inpA at h
  cases ha : tabA d with
  | ex c f w => rw [ha] at h; cases h
  | ok w => rw [ha] at h; cases h; exact ⟨rfl, by rw [(tabA_ok ha).1]⟩
theorem slc_from {v : D} {xs : List D} (h : tupD v = some xs) {k : Nat} : ∃ w, slcD v (some (k : Int)) none = some w ∧ tupD w = some (xs.drop k) := by
  have hc : Nb.cutD xs (some (k : Int)) none = xs.drop k := by
    unfold Nb.cutD
    rw [HT.sIx_nat, HT.sIx_none]
    rw [List.take_of_length_le (by rw [List.length_drop]; omega)]
    by_cases hk : k ≤ xs.length
    · rw [Nat.min_eq_left hk]
    · rw [Nat.min_eq_right (by omega), List.drop_of_length_le (by omega), List.drop_of_length_le (by omega)]
  cases v <;> first | (cases h; done) | skip
  · cases h; exact ⟨_, rfl, by rw [← hc]; rfl⟩
  · cases h; exact ⟨_, rfl, by rw [← hc]; rfl⟩
/-- wires: ascending places -/
def nwA (m : Nat) (d : D) : Ans := match tupD d with
  | some xs => if (xs.all fun x => belB x m) = true ∧ ((xs.zip xs.tail).any fun p => match p with | (.int i, .int j) => decide (j ≤ i) | _ => false) = false then .ok .non else .ex "InvalidSize" "word" (.str "wires")
  | none => .ex "InvalidSize" "word" (.str "wires")
theorem okDs_ints : ∀ {a : List Int}, okDs (a.map .int) = true
  | [] => by simp [okDs]
  | _ :: a => by simp only [List.map_cons, okDs, okD, Bool.true_and]; exact okDs_ints (a := a)
theorem depDs_ints : ∀ {a : List Int}, depDs (a.map .int) = 0
  | [] => by simp [depDs]
  | _ :: a => by simp only [List.map_cons, depDs, depD]; rw [depDs_ints (a := a)]; rfl
theorem eqvs_ints : ∀ {a b : List Int}, eqvs (a.map .int) (b.map .int) = decide (a = b)
  | [], [] => by simp [eqvs]
  | [], _ :: _ => by simp [eqvs]
  | _ :: _, [] => by simp [eqvs]
  | x :: a, y :: b => by
    simp only [List.map_cons, eqvs, eqv, eqvs_ints (a := a) (b := b)]
    by_cases h1 : x = y <;> by_cases h2 : a = b <;> simp [h1, h2]
theorem eqv_tupI {a b : List Int} : eqv (tupI a) (tupI b) = decide (a = b) := by
  unfold tupI
  simp only [eqv, eqvs_ints]
theorem shaped_tupI {a : List Int} : shapedD (tupI a) = true := by
  unfold shapedD tupI
  simp only [okD, okDs_ints, depD, depDs_ints]
  decide
theorem okDs_tups : ∀ {L : List (List Int)}, okDs (L.map tupI) = true
  | [] => by simp [okDs]
  | a :: L => by
    simp only [List.map_cons, okDs, okDs_tups (L := L), Bool.and_true]
    unfold tupI
    simp only [okD, okDs_ints]
theorem depDs_tups : ∀ {L : List (List Int)}, depDs (L.map tupI) ≤ 1
  | [] => by simp [depDs]
  | a :: L => by
    have h : depD (tupI a) = 1 := by unfold tupI; simp only [depD, depDs_ints]
    simp only [List.map_cons, depDs, h]
    have := depDs_tups (L := L)
    omega
theorem shaped_tups {L : List (List Int)} : shapedD (.tup (L.map tupI)) = true := by
  have h1 : okD (.tup (L.map tupI)) = true := by simp only [okD, okDs_tups]
  have h2 : depD (.tup (L.map tupI)) = depDs (L.map tupI) + 1 := by simp only [depD]
  have := depDs_tups (L := L)
  unfold shapedD
  rw [h1, h2, Bool.true_and, decide_eq_true_eq]
  omega
theorem in_tups {s : Sto} {a : List Int} {L : List (List Int)} : inD s (tupI a) (.tup (L.map tupI)) = some (decide (a ∈ L)) := by
  unfold inD
  dsimp only [derefD]
  rw [shaped_tupI, shaped_tups, if_pos (by rfl)]
  congr 1
  induction L with
  | nil => simp
  | cons b L ih => rw [List.map_cons, List.any_cons, eqv_tupI, ih, show decide (b = a) = decide (a = b) from decide_eq_decide.mpr ⟨Eq.symm, Eq.symm⟩]; by_cases h1 : a = b <;> by_cases h2 : a ∈ L <;> simp [h1, h2]
theorem in_ints {s : Sto} {i : Int} {r : List Int} : inD s (.int i) (.lst (r.map .int)) = some (decide (i ∈ r)) := by
  unfold inD
  dsimp only [derefD]
  have h1 : shapedD (.int i) = true := by unfold shapedD; simp [okD, depD]
  have h2 : shapedD (.lst (r.map .int)) = true := by unfold shapedD; simp only [okD, okDs_ints, depD, depDs_ints]; decide
  rw [h1, h2, if_pos (by rfl)]
  congr 1
  induction r with
  | nil => simp
  | cons b L ih =>
    have : shapedD (.lst (L.map .int)) = true := by unfold shapedD; simp only [okD, okDs_ints, depD, depDs_ints]; decide
    rw [List.map_cons, List.any_cons, ih this]
    have e : eqv (.int b) (.int i) = decide (i = b) := by unfold eqv; by_cases h : i = b <;> simp [h]; omega
    rw [e]
    by_cases h1 : i = b <;> by_cases h2 : i ∈ L <;> simp [h1, h2]
def grpD (m : Nat) (r : List Nat) : D := .tup (r.map (setT m))
theorem in_grp {s : Sto} {m : Nat} (hm : m ≤ 8) {i : Nat} (hi : i < 2 ^ m) {r : List Nat} (hr : ∀ j ∈ r, j < 2 ^ m) : inD s (setT m i) (grpD m r) = some (decide (i ∈ r)) := by
  have h : r.map (setT m) = (r.map (S m)).map tupI := by rw [List.map_map]; rfl
  unfold grpD
  rw [h]
  refine in_tups.trans ?_
  congr 1
  rw [decide_eq_decide, List.mem_map]
  constructor
  · rintro ⟨j, hj, e⟩
    have := (S_inj hm (hr j hj) hi).mp e
    rw [← this]; exact hj
  · exact fun h => ⟨i, h, rfl⟩
def natD (r : List Nat) : List D := (r.map fun i : Nat => (i : Int)).map .int
def rowD (r : List Nat) : D := .lst (natD r)
theorem in_row {s : Sto} {i : Nat} {r : List Nat} : inD s (.int (i : Int)) (rowD r) = some (decide (i ∈ r)) := by
  unfold rowD natD
  rw [in_ints]
  congr 1
  rw [decide_eq_decide, List.mem_map]
  constructor
  · rintro ⟨j, hj, e⟩
    have : j = i := by omega
    rw [← this]; exact hj
  · exact fun h => ⟨i, h, rfl⟩
theorem allS_get {m i : Nat} (h : i < 2 ^ m) : (allS m)[i]? = some (setT m i) := by
  unfold allS
  rw [List.getElem?_map, List.getElem?_range h]
  rfl
def tabD (ts : List Int) : D := .tup (ts.map .int)
theorem idx_tab {s : Sto} {ts : List Int} {k : Nat} (h : k < ts.length) : idxD s (tabD ts) (.int (k : Int)) = some (.int (ts.getD k 0)) := by
  show atI _ _ = _
  rw [atI_cast, List.getElem?_map, List.getElem?_eq_getElem h, List.getD_eq_getElem?_getD, List.getElem?_eq_getElem h]
  rfl
theorem natD_len {r : List Nat} : (natD r).length = r.length := by unfold natD; simp
structure Sq (g : D) (gs : List D) : Prop where
  items : itemsD g = some gs
  len : ∀ s, biD s .len [g] = some (.int gs.length)
  idx : ∀ s (i : Nat), idxD s g (.int (i : Int)) = gs[i]?
  small : gs.length ≤ 1000
theorem Sq.tup {gs : List D} (h : gs.length ≤ 1000) : Sq (.tup gs) gs := ⟨rfl, fun s => by simp, fun s i => atI_cast, h⟩
theorem Sq.lst {gs : List D} (h : gs.length ≤ 1000) : Sq (.lst gs) gs := ⟨rfl, fun s => by simp, fun s i => atI_cast, h⟩
theorem Sq.few {g : D} {gs : List D} (h : Sq g gs) : few gs = some gs := few_of (by rw [big_eq]; have := h.small; omega)
/-- what a good lot is -/
theorem lotA_ok {d v : D} (h : lotA d = .ok v) : v = .non ∧ ∃ xs, tupD d = some xs ∧ xs ≠ [] ∧ ∀ i, i < xs.length → folB xs i = true := by
  unfold lotA at h
  cases ht : tupD d with
  | none => rw [ht] at h; cases h
  | some xs =>
    rw [ht] at h
    dsimp only at h
    split at h
    · cases h
    · rename_i hz
      cases hf : (List.range xs.length).find? (fun i => !folB xs i) with
      | some k => rw [hf] at h; cases h
      | none =>
        rw [hf] at h
        cases h
        refine ⟨rfl, xs, rfl, hz, fun i hi => ?_⟩
        rw [List.find?_eq_none] at hf
        have := hf i (by simpa using hi)
        simpa using this
/-- the length of a lot's settings -/
def wide (d : D) : Nat := (intsD (((tupD d).getD []).getD 0 .non)).length
theorem wide_of {d : D} (h : lotA d = .ok .non) : ∃ x0, (∀ s, idxD s d (.int 0) = some x0) ∧ (∀ s, biD s .len [x0] = some (.int (wide d))) ∧ tupD x0 = some ((intsD x0).map .int) ∧ (intsD x0).length = wide d := by
  obtain ⟨_, xs, h1, h2, h3⟩ := lotA_ok h
  have hl : 0 < xs.length := List.length_pos_iff.mpr h2
  have hx : xs[0]? = some (xs.getD 0 .non) := by rw [List.getD_eq_getElem?_getD, List.getElem?_eq_getElem hl]; rfl
  have hb := (bits_of (fol_bits (h3 0 hl))).1
  have hw : wide d = (intsD (xs.getD 0 .non)).length := by unfold wide; rw [h1]; rfl
  refine ⟨xs.getD 0 .non, fun s => ?_, fun s => ?_, hb, hw.symm⟩
  · have := idx_t (s := s) h1 (i := 0)
    rw [hx] at this
    exact this
  · rw [len_t hb, hw]; simp
/-- numbers of settings: ascending -/
structure Row (m : Nat) (r : List Nat) : Prop where
  asc : r.Pairwise (· < ·)
  lt : ∀ j ∈ r, j < 2 ^ m
  ne : r ≠ []
theorem asc_len {N : Nat} : ∀ (r : List Nat) (lo : Nat), r.Pairwise (· < ·) → (∀ j ∈ r, lo ≤ j ∧ j < N) → r.length ≤ N - lo
  | [], _, _, _ => Nat.zero_le _
  | x :: r, lo, h, hb => by
    obtain ⟨h1, h2⟩ := List.pairwise_cons.mp h
    have hx := hb x List.mem_cons_self
    have := asc_len r (x + 1) h2 fun j hj => ⟨h1 j hj, (hb j (List.mem_cons_of_mem _ hj)).2⟩
    rw [List.length_cons]
    omega
theorem Row.len {m : Nat} {r : List Nat} (h : Row m r) : r.length ≤ 2 ^ m := asc_len r 0 h.asc fun j hj => ⟨Nat.zero_le _, h.lt j hj⟩
theorem bits_tupI {bs : List Int} (h : ∀ b ∈ bs, b = 0 ∨ b = 1) : bitsB (tupI bs) = true := by
  unfold bitsB tupI tupD
  dsimp only
  rw [List.all_map, List.all_eq_true]
  intro b hb
  rcases h b hb with rfl | rfl <;> rfl
theorem intsD_tupI {bs : List Int} : intsD (tupI bs) = bs := by
  unfold intsD tupI tupD
  dsimp only
  rw [asI_map]
  rfl
theorem pl2_tupI {bs : List Int} (h : bs.length ≤ 1000) : pl2 (tupI bs) = true := by
  unfold pl2 tupI tupD plainD
  simp [h]
theorem grp_get {m i : Nat} {r : List Nat} (h : i < r.length) : (r.map (setT m))[i]? = some (setT m r[i]) := by
  rw [List.getElem?_map, List.getElem?_eq_getElem h]; rfl
theorem grp_fol {m : Nat} (h1 : 1 ≤ m) (h4 : m ≤ 8) {r : List Nat} (h : Row m r) {i : Nat} (hi : i < r.length) : folB (r.map (setT m)) i = true := by
  have hS : ∀ k (hk : k < r.length), S m r[k] ≠ [] ∧ (S m r[k]).length = m ∧ bitsB (setT m r[k]) = true ∧ intsD (setT m r[k]) = S m r[k] := fun k hk => by
    obtain ⟨f1, f2⟩ := S_facts h4 (h.lt r[k] (List.getElem_mem hk))
    refine ⟨fun e => ?_, f1, bits_tupI f2, intsD_tupI⟩
    rw [e] at f1
    simp at f1
    omega
  have gd : ∀ k (hk : k < r.length), (r.map (setT m)).getD k .non = setT m r[k] := fun k hk => by
    rw [List.getD_eq_getElem?_getD, grp_get hk]; rfl
  obtain ⟨f1, f2, f3, f4⟩ := hS i hi
  unfold folB
  rw [grp_get hi]
  dsimp only
  rw [f3, f4, gd 0 (by omega), gd (i - 1) (by omega)]
  obtain ⟨g1, g2, g3, g4⟩ := hS 0 (by omega)
  obtain ⟨k1, k2, k3, k4⟩ := hS (i - 1) (by omega)
  rw [g4, k4, f2, g2]
  have e1 : (S m r[i]).isEmpty = false := by cases q : S m r[i] <;> first | exact absurd q f1 | rfl
  rw [e1]
  by_cases h0 : i = 0
  · simp [h0]
  · have hlt : r[i - 1] < r[i] := by
      have := List.pairwise_iff_getElem.mp h.asc (i - 1) i (by omega) hi (by omega)
      exact this
    have := S_lt h4 (h.lt r[i] (List.getElem_mem hi)) hlt
    simp [this]
theorem grp_lot {m : Nat} (h1 : 1 ≤ m) (h4 : m ≤ 8) {r : List Nat} (h : Row m r) : lotA (grpD m r) = .ok .non := by
  unfold lotA grpD tupD
  dsimp only
  rw [if_neg (by simp [h.ne])]
  have : (List.range (r.map (setT m)).length).find? (fun i => !folB (r.map (setT m)) i) = none := by
    rw [List.find?_eq_none]
    intro i hi
    rw [List.mem_range, List.length_map] at hi
    simp [grp_fol h1 h4 h hi]
  rw [this]
theorem grp_pl3 {m : Nat} (h4 : m ≤ 8) {r : List Nat} (hl : r.length ≤ 1000) : pl3 (grpD m r) = true := by
  unfold pl3 grpD tupD plainD
  simp only [Bool.true_and, Bool.and_eq_true, decide_eq_true_eq, List.length_map, hl, and_true]
  rw [List.all_map, List.all_eq_true]
  intro i _
  refine pl2_tupI ?_
  unfold S
  simp
  omega
theorem grp_wide {m : Nat} (h4 : m ≤ 8) {r : List Nat} (h : Row m r) : wide (grpD m r) = m := by
  unfold wide grpD tupD
  dsimp only
  have hp : 0 < r.length := List.length_pos_iff.mpr h.ne
  have : ((some (r.map (setT m))).getD []).getD 0 .non = setT m r[0] := by
    show (r.map (setT m)).getD 0 .non = _
    rw [List.getD_eq_getElem?_getD, grp_get hp]; rfl
  rw [this]
  unfold setT
  rw [intsD_tupI]
  exact (S_facts h4 (h.lt r[0] (List.getElem_mem hp))).1
/-- a table of bits -/
structure Tab (k : Nat) (ts : List Int) : Prop where
  len : ts.length = 2 ^ k
  bit : ∀ b ∈ ts, b = 0 ∨ b = 1
theorem tab_A {k : Nat} (hk : k ≤ 8) {ts : List Int} (h : Tab k ts) : tabA (tabD ts) = .ok .non := by
  unfold tabA tabD tupD
  dsimp only
  have hb : badBit (ts.map .int) = none := by
    unfold badBit
    rw [List.findIdx?_eq_none_iff]
    intro x hx
    obtain ⟨b, hb, rfl⟩ := List.mem_map.mp hx
    rcases h.bit b hb with rfl | rfl <;> rfl
  have hm : ∀ k : _root_.Fin 9, 2 ^ k.val ∈ tabSizes := by decide
  rw [if_pos (by rw [List.length_map, h.len]; exact hm ⟨k, by omega⟩), hb]
theorem tab_inp {k : Nat} (hk : k ≤ 8) {ts : List Int} (h : Tab k ts) : tabSizes.idxOf (lenT (tabD ts)) = k := by
  have e : lenT (tabD ts) = 2 ^ k := by unfold lenT tabD tupD; simp [h.len]
  have hm : ∀ k : _root_.Fin 9, tabSizes.idxOf (2 ^ k.val) = k.val := by decide
  rw [e]
  exact hm ⟨k, by omega⟩
theorem tab_ni {k : Nat} (hk : k ≤ 8) {ts : List Int} (h : Tab k ts) {a b : Int} : niA (tabD ts) a b = if a ≤ (k : Int) ∧ (k : Int) ≤ b then .ok .non else .ex "InvalidSize" "word" (.str "inputs") := by
  unfold niA inpA
  rw [tab_A hk h, tab_inp hk h]
theorem tab_pl2 {ts : List Int} (h : ts.length ≤ 1000) : pl2 (tabD ts) = true := pl2_tupI h
theorem filter_and_map {α β : Type} {p : α → Bool} {f : α → β} {q : β → Bool} : ∀ {l : List α}, ((l.filter fun a => p a && q (f a)).map f) = ((l.filter p).map f).filter q
  | [] => rfl
  | a :: l => by
    have ih := filter_and_map (p := p) (f := f) (q := q) (l := l)
    simp only [List.filter_cons]
    cases h1 : p a with
    | false => simpa [h1] using ih
    | true =>
      cases h2 : q (f a) with
      | false => simpa [h2] using ih
      | true => simpa [h2] using ih
theorem band_nat {a b : Nat} : binD .band (.int (a : Int)) (.int (b : Int)) = some (.int ((a &&& b : Nat) : Int)) :=
  congrArg (fun z => some (D.int z)) ((bitAnd_pp (by omega) (by omega)).trans (by simp))
theorem bor_nat {a b : Nat} : binD .bor (.int (a : Int)) (.int (b : Int)) = some (.int ((a ||| b : Nat) : Int)) :=
  congrArg (fun z => some (D.int z)) ((Bits.bitOr_pp (by omega) (by omega)).trans (by simp))
theorem bxor_nat {a b : Nat} : binD .bxor (.int (a : Int)) (.int (b : Int)) = some (.int ((a ^^^ b : Nat) : Int)) :=
  congrArg (fun z => some (D.int z)) ((Bits.bitXor_pp (by omega) (by omega)).trans (by simp))
theorem div_nat {a p : Nat} (hp : 0 < p) (hs : p < 1000) : binD .fdiv (.int (a : Int)) (.int (p : Int)) = some (.int ((a / p : Nat) : Int)) := by
  show (Nb.binI .fdiv _ _).map D.int = _
  unfold Nb.binI
  dsimp only
  rw [if_pos (by unfold cDiv; simp; omega)]
  show some (D.int _) = _
  rw [Int.fdiv_eq_ediv_of_nonneg _ (by omega)]
  rfl
theorem mod_nat {a p : Nat} (hp : 0 < p) : binD .mod (.int (a : Int)) (.int (p : Int)) = some (.int ((a % p : Nat) : Int)) := by
  show (Nb.binI .mod _ _).map D.int = _
  unfold Nb.binI
  dsimp only
  rw [if_pos (by unfold cMod; simp; omega)]
  show some (D.int _) = _
  rw [Int.fmod_eq_emod_of_nonneg _ (by omega)]
  rfl
theorem sortBy_asc : ∀ {l : List Int}, l.Pairwise (· < ·) → sortBy id l = l
  | [], _ => rfl
  | x :: l, h => by
    obtain ⟨h1, h2⟩ := List.pairwise_cons.mp h
    unfold sortBy
    rw [sortBy_asc h2]
    cases l with
    | nil => rfl
    | cons y l =>
      unfold insBy
      rw [if_pos (by have := h1 y List.mem_cons_self; exact Int.le_of_lt this)]
theorem srt_row {s : Sto} {r : List Nat} (h : r.Pairwise (· < ·)) : biD s .srt [rowD r] = some (rowD r) := by
  have e : sortD (natD r) = some (natD r) := by
    unfold natD sortD
    rw [asI_map]
    dsimp only
    rw [sortBy_asc (by rw [List.pairwise_map]; exact h.imp fun h => by omega)]
  unfold rowD
  simp [biD, lstD, derefD, e]
theorem belB_nat {i m : Nat} : belB (.int (i : Int)) (m : Int) = decide (i < m) := by
  unfold belB
  by_cases h : i < m
  · simp [h]
  · have : ¬ (i : Int) < (m : Int) := by omega
    simp [h]
theorem zip_tail_asc {ws : List Nat} (h : ws.Pairwise (· < ·)) : ∀ p ∈ ws.zip ws.tail, p.1 < p.2 := by
  induction ws with
  | nil => intro p hp; simp at hp
  | cons a l ih =>
    cases l with
    | nil => intro p hp; simp at hp
    | cons b l =>
      intro p hp
      obtain ⟨h1, h2⟩ := List.pairwise_cons.mp h
      simp only [List.tail_cons, List.zip_cons_cons, List.mem_cons] at hp
      rcases hp with rfl | hp
      · exact h1 b List.mem_cons_self
      · exact ih h2 p hp
theorem nw_ok {m : Nat} {ws : List Nat} (h : ws.Pairwise (· < ·)) (hl : ∀ w ∈ ws, w < m) : nwA m (.tup (natD ws)) = .ok .non := by
  unfold nwA tupD
  dsimp only
  rw [if_pos]
  refine ⟨?_, ?_⟩
  · rw [List.all_eq_true]
    intro x hx
    unfold natD at hx
    rw [List.map_map] at hx
    obtain ⟨i, hi, rfl⟩ := List.mem_map.mp hx
    show belB (.int (i : Int)) m = true
    rw [belB_nat, decide_eq_true (hl i hi)]
  · rw [List.any_eq_false]
    have e : (natD ws).zip (natD ws).tail = (ws.zip ws.tail).map fun p => (D.int (p.1 : Int), D.int (p.2 : Int)) := by
      unfold natD
      rw [List.map_map, ← List.map_tail, List.zip_map]
      rfl
    rw [e]
    intro p hp
    obtain ⟨q, hq, rfl⟩ := List.mem_map.mp hp
    have := zip_tail_asc h q hq
    simp
    omega
theorem pl2_nat {ws : List Nat} (h : ws.length ≤ 1000) : pl2 (.tup (natD ws)) = true := pl2_tupI (bs := ws.map fun i : Nat => (i : Int)) (by simpa using h)
theorem in_natT {s : Sto} {i : Nat} {r : List Nat} : inD s (.int (i : Int)) (.tup (natD r)) = some (decide (i ∈ r)) := by
  have := in_row (s := s) (i := i) (r := r)
  unfold inD at this ⊢
  dsimp only [derefD, rowD] at this ⊢
  have e : shapedD (.tup (natD r)) = shapedD (.lst (natD r)) := by unfold shapedD; simp only [okD, depD]; rfl
  rw [e]
  exact this
theorem tupsI_ok {L : List (List Int)} {k : Nat} (hk : 1 ≤ k) (h0 : L ≠ []) (hl : ∀ a ∈ L, a.length = k) (hb : ∀ a ∈ L, ∀ b ∈ a, b = 0 ∨ b = 1) : tupsOk (L.map tupI) = true := by
  cases L with
  | nil => exact absurd rfl h0
  | cons a L =>
    show (decide (0 < (intsD (tupI a)).length) && ((a :: L).map tupI).all fun y => _) = true
    rw [intsD_tupI]
    have ha := hl a List.mem_cons_self
    rw [Bool.and_eq_true_iff]
    refine ⟨by rw [ha]; simp; omega, ?_⟩
    rw [List.all_eq_true]
    intro d hd
    obtain ⟨b, hb2, rfl⟩ := List.mem_map.mp hd
    unfold tupI
    dsimp only
    rw [allInts_map, asI_map, List.length_map, hl b hb2, ha]
    simp
    intro x hx
    rcases hb b hb2 x hx with rfl | rfl <;> decide
theorem perm_sorted {α : Type} {key : α → Int} : ∀ {l1 l2 : List α}, l1.Perm l2 → l1.Pairwise (fun a b => key a ≤ key b) → l2.Pairwise (fun a b => key a < key b) → l1 = l2
  | [], l2, p, _, _ => p.nil_eq
  | x :: s, [], p, _, _ => absurd p.length_eq (by simp)
  | x :: s, y :: t, p, h1, h2 => by
    obtain ⟨a1, a2⟩ := List.pairwise_cons.mp h1
    obtain ⟨b1, b2⟩ := List.pairwise_cons.mp h2
    have hxy : x = y := by
      have hx : x ∈ y :: t := p.mem_iff.mp List.mem_cons_self
      rcases List.mem_cons.mp hx with h | h
      · exact h
      · have hy : y ∈ x :: s := p.mem_iff.mpr List.mem_cons_self
        have k1 := b1 x h
        rcases List.mem_cons.mp hy with h' | h'
        · exact h'.symm
        · have := a1 y h'
          omega
    subst hxy
    rw [perm_sorted ((List.perm_cons x).mp p) a2 b2]
/-- the draws' store -/
def dealS (cs : List Int) (m : Int) : Sto := [.lst (cs.map .int), .lst [.ref 0, .int m]]
def Dl (st : Sto) : Prop := ∃ cs m, st = dealS cs m ∧ (∀ c ∈ cs, 0 ≤ c) ∧ cs.length ≤ 63 ∧ 0 ≤ m
theorem int_int {s : Sto} {i : Int} : biD s .int [.int i] = some (.int i) := rfl
theorem abs_int {s : Sto} {i : Int} : biD s .abs [.int i] = some (.int (if i < 0 then -i else i)) := rfl
theorem ne_nilL {s : Sto} {r : List Nat} : cmpD s .ne (rowD r) (.lst []) = some (!decide (r = [])) := by
  show (eqD s (rowD r) (.lst [])).map (!·) = _
  have h2 : shapedD (rowD r) = true := by unfold shapedD rowD natD; simp only [okD, okDs_ints, depD, depDs_ints]; decide
  have e : eqD s (rowD r) (.lst []) = if (shapedD (rowD r) && shapedD (.lst [])) = true then some (eqv (rowD r) (.lst [])) else none := rfl
  rw [e, h2, if_pos (by rfl)]
  cases r <;> simp [rowD, natD, eqv, eqvs]
theorem lotA_at {v : D} {xs : List D} (hv : tupD v = some xs) {k : Nat} (hk : k < xs.length) (ha : ∀ i, i < k → folB xs i = true) (hb : folB xs k = false) : lotA v = .ex "InvalidLot" "at" (.int (k : Int)) := by
  unfold lotA
  rw [hv]
  dsimp only
  rw [if_neg (fun e => by rw [e] at hk; simp at hk)]
  have : (List.range xs.length).find? (fun i => !folB xs i) = some k := by
    rw [List.find?_range_eq_some]
    exact ⟨by simp [hb], by simpa using hk, fun j hj => by simp [ha j hj]⟩
  rw [this]
theorem fol_congr {xs ys : List D} {i : Nat} (h : xs[i]? = ys[i]?) (h0 : i ≠ 0 → xs[0]? = ys[0]? ∧ xs[i - 1]? = ys[i - 1]?) : folB xs i = folB ys i := by
  unfold folB
  rw [h]
  cases ys[i]? with
  | none => rfl
  | some e =>
    dsimp only
    by_cases hi : i = 0
    · simp [hi]
    · obtain ⟨h1, h2⟩ := h0 hi
      rw [List.getD_eq_getElem?_getD, List.getD_eq_getElem?_getD, List.getD_eq_getElem?_getD, List.getD_eq_getElem?_getD, h1, h2]
/-- the same as far as k -/
theorem fol_pre {xs g : List D} {k : Nat} (h : ∀ i, i < k → xs[i]? = g[i]?) (hg : ∀ i, i < k → folB g i = true) : ∀ i, i < k → folB xs i = true := fun i hi => by
  rw [fol_congr (h i hi) fun h0 => ⟨h 0 (by omega), h (i - 1) (by omega)⟩]
  exact hg i hi
/-- an entry that is wrong behind settings of m wires -/
def wrongE (m k : Nat) (e : D) : Prop := bitsB e = false ∨ (intsD e).isEmpty = true ∨ (k ≠ 0 ∧ (intsD e).length ≠ m)
theorem wrong_fol {m : Nat} {xs : List D} {k : Nat} {e x0 : D} (hx : xs[k]? = some e) (h0 : k ≠ 0 → xs[0]? = some x0 ∧ (intsD x0).length = m) (hw : wrongE m k e) : folB xs k = false := by
  unfold folB
  rw [hx]
  dsimp only
  rcases hw with h | h | ⟨h1, h2⟩
  · rw [h]; rfl
  · rw [h]; simp
  · obtain ⟨g1, g2⟩ := h0 h1
    rw [List.getD_eq_getElem?_getD, g1]
    have e1 : ((intsD e).length == (intsD ((some x0).getD D.non)).length) = false := by
      show ((intsD e).length == (intsD x0).length) = false
      rw [g2]; simpa using h2
    rw [e1]
    simp [h1]
theorem pl3_of {xs : List D} (h : ∀ x ∈ xs, pl2 x = true) (hl : xs.length ≤ 1000) : pl3 (.tup xs) = true := by
  unfold pl3 tupD plainD
  simp only [Bool.true_and, Bool.and_eq_true, decide_eq_true_eq, hl, and_true]
  exact List.all_eq_true.mpr h
theorem g_pl2 {m : Nat} {r : List Nat} (h4 : m ≤ 8) : ∀ x ∈ r.map (setT m), pl2 x = true := fun x hx => by
  obtain ⟨i, _, rfl⟩ := List.mem_map.mp hx
  exact pl2_tupI (by unfold S; simp; omega)
/-- one entry is changed (and what stands behind) -/
theorem lot_wrong {m : Nat} {r : List Nat} (h1 : 1 ≤ m) (h4 : m ≤ 8) (hr : Row m r) {k : Nat} (hk : k < r.length) {e : D} {rest : List D} (hw : wrongE m k e) : lotA (.tup ((r.map (setT m)).take k ++ e :: rest)) = .ex "InvalidLot" "at" (.int (k : Int)) := by
  have hl : ((r.map (setT m)).take k).length = k := by rw [List.length_take, List.length_map]; omega
  have hpre : ∀ i, i < k → ((r.map (setT m)).take k ++ e :: rest)[i]? = (r.map (setT m))[i]? := fun i hi => by
    rw [List.getElem?_append_left (by rw [hl]; exact hi), List.getElem?_take_of_lt hi]
  have hat : ((r.map (setT m)).take k ++ e :: rest)[k]? = some e := by
    rw [List.getElem?_append_right (by omega), hl]; simp
  refine lotA_at rfl (by rw [List.length_append, hl]; simp) (fol_pre hpre fun i hi => grp_fol h1 h4 hr (by omega)) ?_
  refine wrong_fol (x0 := setT m (r[0]'(by omega))) hat (fun h0 => ⟨?_, ?_⟩) hw
  · rw [hpre 0 (by omega), grp_get (by omega)]
  · unfold setT
    rw [intsD_tupI]
    exact (S_facts h4 (hr.lt _ (List.getElem_mem _))).1
/-- an entry twice -/
theorem lot_twice {m : Nat} {r : List Nat} (h1 : 1 ≤ m) (h4 : m ≤ 8) (hr : Row m r) {k : Nat} (hk : k < r.length) : lotA (.tup ((r.map (setT m)).take (k + 1) ++ (r.map (setT m)).drop k)) = .ex "InvalidLot" "at" (.int ((k : Int) + 1)) := by
  have hl : ((r.map (setT m)).take (k + 1)).length = k + 1 := by rw [List.length_take, List.length_map]; omega
  have hpre : ∀ i, i < k + 1 → ((r.map (setT m)).take (k + 1) ++ (r.map (setT m)).drop k)[i]? = (r.map (setT m))[i]? := fun i hi => by
    rw [List.getElem?_append_left (by rw [hl]; exact hi), List.getElem?_take_of_lt hi]
  have hat : ((r.map (setT m)).take (k + 1) ++ (r.map (setT m)).drop k)[k + 1]? = some (setT m r[k]) := by
    rw [List.getElem?_append_right (by omega), hl, List.getElem?_drop, Nat.sub_self, Nat.add_zero, grp_get hk]
  have := lotA_at (v := .tup ((r.map (setT m)).take (k + 1) ++ (r.map (setT m)).drop k)) rfl (k := k + 1) (by rw [List.length_append, hl, List.length_drop, List.length_map]; omega) (fol_pre hpre fun i hi => grp_fol h1 h4 hr (by omega)) ?_
  · rw [this]; rfl
  · unfold folB
    rw [hat]
    dsimp only
    have e2 : ((r.map (setT m)).take (k + 1) ++ (r.map (setT m)).drop k).getD (k + 1 - 1) D.non = setT m r[k] := by
      rw [List.getD_eq_getElem?_getD, Nat.add_sub_cancel, hpre k (by omega), grp_get hk]; rfl
    rw [e2, lexI_irr]
    simp
theorem pl2_tup {xs : List D} (h : ∀ x ∈ xs, plainD x = true) (hl : xs.length ≤ 1000) : pl2 (.tup xs) = true := by
  unfold pl2
  simp only [tupD, plainD, Bool.true_and, Bool.and_eq_true, decide_eq_true_eq, hl, and_true]
  exact List.all_eq_true.mpr h
theorem not_bits {xs : List D} {x : D} (h : x ∈ xs) (hb : belB x 2 = false) : bitsB (.tup xs) = false := by
  unfold bitsB tupD
  dsimp only
  rw [List.all_eq_false]
  exact ⟨x, h, by simp [hb]⟩
theorem slc_drop1 {xs : List D} : slcD (.tup xs) none (some (-1)) = some (.tup xs.dropLast) := by
  show some (D.tup (Nb.cutD xs _ _)) = _
  congr 2
  unfold Nb.cutD HT.sIx
  dsimp only
  rw [if_pos (by decide)]
  simp only [Nat.sub_zero, List.drop_zero]
  rw [List.dropLast_eq_take]
  congr 1
  omega
theorem bel_bit {a : Int} (h : a = 0 ∨ a = 1) : belB (.int a) 2 = true := by rcases h with rfl | rfl <;> rfl
structure Rp (k W : Nat) (d : D) : Prop where
  show_ : showD d = true
  dep : depD d ≤ k
  wid : wD d ≤ W
theorem rp_all {k W : Nat} : ∀ {xs : List D}, (∀ x ∈ xs, Rp k W x) → showDs xs = true ∧ depDs xs ≤ k ∧ wDs xs ≤ (W + 2) * xs.length
  | [], _ => ⟨rfl, Nat.zero_le _, Nat.zero_le _⟩
  | x :: xs, h => by
    obtain ⟨h1, h2, h3⟩ := rp_all fun y hy => h y (List.mem_cons_of_mem _ hy)
    obtain ⟨g1, g2, g3⟩ := h x List.mem_cons_self
    refine ⟨?_, ?_, ?_⟩
    · unfold showDs; rw [g1, h1]; rfl
    · unfold depDs; omega
    · unfold wDs
      rw [List.length_cons, Nat.mul_add]
      omega
theorem rp_tup {k W L : Nat} {xs : List D} (h : ∀ x ∈ xs, Rp k W x) (hl : xs.length ≤ L) : Rp (k + 1) ((W + 2) * L + 4) (.tup xs) := by
  obtain ⟨h1, h2, h3⟩ := rp_all h
  have : (W + 2) * xs.length ≤ (W + 2) * L := Nat.mul_le_mul_left _ hl
  exact ⟨h1, by unfold depD; omega, by unfold wD; omega⟩
theorem rp_lst {k W L : Nat} {xs : List D} (h : ∀ x ∈ xs, Rp k W x) (hl : xs.length ≤ L) : Rp (k + 1) ((W + 2) * L + 4) (.lst xs) := by
  obtain ⟨h1, h2, h3⟩ := rp_all h
  have : (W + 2) * xs.length ≤ (W + 2) * L := Nat.mul_le_mul_left _ hl
  exact ⟨h1, by unfold depD; omega, by unfold wD; omega⟩
theorem Rp.ok {k W : Nat} {d : D} (h : Rp k W d) (hk : k ≤ 30) (hw : W ≤ 1000000) : ∀ s, biD s .repr [d] = some (.str (reprD d)) := fun s => by
  have : reprOk d = true := by
    unfold reprOk
    rw [h.show_, Bool.true_and, Bool.and_eq_true_iff]
    exact ⟨decide_eq_true (Nat.le_trans h.dep hk), decide_eq_true (Nat.le_trans h.wid hw)⟩
  show (if reprOk d then some (D.str (reprD d)) else none) = _
  rw [this]; rfl
theorem rp_bit {b : Int} (h : b = 0 ∨ b = 1) : Rp 0 3 (.int b) := by
  rcases h with rfl | rfl <;> exact ⟨by decide +kernel, by decide +kernel, by decide +kernel⟩
theorem dedup_len : ∀ {xs : List D}, (dedupD xs).length ≤ xs.length
  | [] => Nat.le_refl _
  | x :: xs => by
    have := dedup_len (xs := xs)
    unfold dedupD
    split
    · rw [List.length_cons]; omega
    · rw [List.length_cons, List.length_cons]; omega
theorem rp_tupI {bs : List Int} (h : ∀ b ∈ bs, b = 0 ∨ b = 1) (hl : bs.length ≤ 8) : Rp 1 44 (tupI bs) :=
  rp_tup (k := 0) (W := 3) (L := 8) (fun x hx => by
    obtain ⟨b, hb, rfl⟩ := List.mem_map.mp hx
    exact rp_bit (h b hb)) (by rw [List.length_map]; exact hl)
theorem rp_grp {m : Nat} (h4 : m ≤ 8) {r : List Nat} (h : ∀ j ∈ r, j < 2 ^ m) (hl : r.length ≤ 256) : Rp 2 11780 (grpD m r) :=
  rp_tup (k := 1) (W := 44) (L := 256) (fun x hx => by
    obtain ⟨i, hi, rfl⟩ := List.mem_map.mp hx
    obtain ⟨f1, f2⟩ := S_facts h4 (h i hi)
    exact rp_tupI f2 (by omega)) (by rw [List.length_map]; exact hl)
theorem slc_fromT {xs : List D} {k : Nat} : slcD (.tup xs) (some (k : Int)) none = some (.tup (xs.drop k)) := by
  show some (D.tup (Nb.cutD xs _ _)) = _
  congr 2
  unfold Nb.cutD
  rw [HT.sIx_nat, HT.sIx_none]
  rw [List.take_of_length_le (by rw [List.length_drop]; omega)]
  by_cases hk : k ≤ xs.length
  · rw [Nat.min_eq_left hk]
  · rw [Nat.min_eq_right (by omega), List.drop_of_length_le (by omega), List.drop_of_length_le (by omega)]
theorem slc_toT {xs : List D} {k : Nat} : slcD (.tup xs) none (some (k : Int)) = some (.tup (xs.take k)) := by
  show some (D.tup (Nb.cutD xs _ _)) = _
  congr 2
  unfold Nb.cutD
  rw [HT.sIx_nat, HT.sIx_none]
  simp only [Nat.sub_zero, List.drop_zero]
  by_cases hk : k ≤ xs.length
  · rw [Nat.min_eq_left hk]
  · rw [Nat.min_eq_right (by omega), List.take_of_length_le (by omega), List.take_of_length_le (by omega)]
theorem add_tup {xs ys : List D} (h : xs.length + ys.length ≤ 1000) : binD .add (.tup xs) (.tup ys) = some (.tup (xs ++ ys)) := by
  show (if xs.length + ys.length ≤ big then some (D.tup (xs ++ ys)) else none) = _
  rw [if_pos (by rw [big_eq]; omega)]
/-! dicts by tuples -/
def keyT (bs : List Int) : List Key := bs.map .inl
theorem keys_tupI {bs : List Int} : keysD (tupI bs) = some (keyT bs) := by
  show (bs.map D.int).mapM keyD = _
  induction bs with
  | nil => rfl
  | cons b bs ih => rw [List.map_cons, List.mapM_cons, ih]; rfl
theorem keyT_inj {a b : List Int} (h : keyT a = keyT b) : a = b := by
  unfold keyT at h
  exact List.map_inj_right (f := Sum.inl) (fun _ _ h => Sum.inl.inj h) |>.mp h
theorem putKs_any {κ : Type} [DecidableEq κ] (q k : κ) (ks : List κ) : (putKs ks k).any (fun x => decide (x = q)) = (ks.any (fun x => decide (x = q)) || decide (k = q)) := by
  unfold putKs
  split
  · rename_i h
    by_cases e : k = q
    · subst e; rw [h]; simp
    · simp [e]
  · simp
theorem dc_keys {κ : Type} [DecidableEq κ] {f : D → Sto → Res (κ × D)} {s : Sto} (kf : D → κ) (v : D) (q : κ) : ∀ (ds : List D), (∀ d ∈ ds, f d s = .ok (kf d, v) s) → ∀ ks vs, ∃ ks' vs', dcLoop f ds ks vs s = .ok (ks', vs') s ∧ ∀ q, ks'.any (fun x => decide (x = q)) = (ks.any (fun x => decide (x = q)) || ds.any fun d => decide (kf d = q))
  | [], _, ks, vs => ⟨ks, vs, rfl, fun q => by simp⟩
  | d :: ds, h, ks, vs => by
    obtain ⟨ks', vs', e, p⟩ := dc_keys kf v q ds (fun d hd => h d (List.mem_cons_of_mem _ hd)) (putKs ks (kf d)) (putVs ks vs (kf d) v)
    refine ⟨ks', vs', ?_, fun q => ?_⟩
    · unfold dcLoop
      rw [h d List.mem_cons_self]
      exact e
    · rw [p q, putKs_any, List.any_cons, Bool.or_assoc]
end Nb
end
section
set_option Elab.async false
set_option linter.all false
set_option maxRecDepth 100000
set_option maxHeartbeats 4000000
/-! PlE: comprehensions and loops over numbers -/
namespace Nb
open PySem PySem.Spec PyProof.Rows L2
section
variable {ι : Type} {T : Tb} {cl : Cl} {e : Enw} {st s : Sto} {Q : D → Sto → Prop} {X : Str → List (Str × D) → Sto → Prop} {P : Po}
@[simp] theorem w_mt {m : Mt} {a : Ex} {es : Es} : wpR ((sem T cl (.mt m a es)).v e st) Q X ↔ wpR ((sem T cl a).v e st) (fun x s1 => mtB m s1 x = true ∧ wpR (sems T cl es e s1) (fun ds s2 => ∃ z, mtD s2 m x ds = some z ∧ Q z s2) X) X := by
  simp only [sem, wv_mkT, wpR_bind, wpR_ite, wpR_ofO]
  constructor <;> intro h <;> refine h.mono (fun a s h => ?_) fun _ _ _ h => h
  · split at h
    · exact ⟨by assumption, h⟩
    · exact h.elim
  · rw [if_pos h.1]; exact h.2
@[simp] theorem mtB_lst {s : Sto} {xs : List D} : mtB .index s (.lst xs) = true := rfl
theorem natD_map {r : List Nat} : natD r = r.map fun i : Nat => D.int (i : Int) := by unfold natD; rw [List.map_map]; rfl
theorem rngL_nat {n : Nat} : rngL 0 n = natD (List.range n) := by
  rw [natD_map]; unfold rngL
  refine List.map_congr_left fun i _ => ?_
  rw [Int.zero_add]
theorem rng_nat {n : Nat} (h : n ≤ 1000000) : (rngD [.int (n : Int)]).bind few = some (natD (List.range n)) := by
  rw [rngD_nat h, Option.bind_some, few_of (by rw [big_eq, rngL_length]; omega), rngL_nat]
theorem natD_get {r : List Nat} {i : Nat} {d : D} (h : (natD r)[i]? = some d) : ∃ x, r[i]? = some x ∧ d = .int (x : Int) := by
  rw [natD_map, List.getElem?_map] at h
  obtain ⟨x, hx, rfl⟩ := Option.map_eq_some_iff.mp h
  exact ⟨x, hx, rfl⟩
theorem few_nat {r : List Nat} (h : r.length ≤ 1000000) : few (natD r) = some (natD r) := few_of (by rw [natD_len, big_eq]; omega)
/-- [g(x) for x in rows if p(x)] -/
theorem wp_lcF {h : ι → D} {f : D → Sto → Res (Option D)} {R : List D → Sto → Prop} (p : ι → Bool) (g : ι → D) {rows : List ι} (H : ∀ r ∈ rows, wpR (f (h r) s) (fun o s' => o = (if p r = true then some (g r) else none) ∧ s' = s) (fun _ _ _ => False)) (hQ : R ((rows.filter p).map g) s) :
    wpR (lcLoop f (rows.map h) s) R X := by
  have key : ∀ rows : List ι, (∀ r ∈ rows, f (h r) s = .ok (if p r = true then some (g r) else none) s) → lcLoop f (rows.map h) s = .ok ((rows.filter p).map g) s := by
    intro rows
    induction rows with
    | nil => intro _; rfl
    | cons r rows ih =>
      intro H
      rw [List.map_cons]
      unfold lcLoop
      rw [H r List.mem_cons_self]
      simp only [Res.bind]
      rw [ih fun r hr => H r (List.mem_cons_of_mem _ hr)]
      rw [List.filter_cons]
      cases p r <;> rfl
  rw [key rows fun r hr => wpR_eq.mp (H r hr)]
  exact hQ
theorem wp_lcN {f : D → Sto → Res (Option D)} {R : List D → Sto → Prop} (p : Nat → Bool) (g : Nat → D) {r : List Nat} (H : ∀ i ∈ r, wpR (f (.int (i : Int)) s) (fun o s' => o = (if p i = true then some (g i) else none) ∧ s' = s) (fun _ _ _ => False)) (hQ : R ((r.filter p).map g) s) :
    wpR (lcLoop f (natD r) s) R X := by
  rw [natD_map]
  exact wp_lcF p g H hQ
theorem wp_lcNm {f : D → Sto → Res (Option D)} {R : List D → Sto → Prop} (g : Nat → D) {r : List Nat} (H : ∀ i ∈ r, wpR (f (.int (i : Int)) s) (fun o s' => o = some (g i) ∧ s' = s) (fun _ _ _ => False)) (hQ : R (r.map g) s) :
    wpR (lcLoop f (natD r) s) R X := by
  rw [natD_map]
  exact wp_lcmm g H hQ
/-- the items that are kept, as numbers -/
theorem wp_lcNf {f : D → Sto → Res (Option D)} {R : List D → Sto → Prop} (p : Nat → Bool) {r : List Nat} (H : ∀ i ∈ r, wpR (f (.int (i : Int)) s) (fun o s' => o = (if p i = true then some (.int (i : Int)) else none) ∧ s' = s) (fun _ _ _ => False)) (hQ : R (natD (r.filter p)) s) :
    wpR (lcLoop f (natD r) s) R X := wp_lcN p (fun i => .int (i : Int)) H (by rw [← natD_map]; exact hQ)
/-- a loop over numbers -/
theorem wp_forN {t : Tg} {bd : Enw → Sto → Out} {r : List Nat} (I : Nat → Enw → Sto → Prop) (h0 : I 0 e s)
    (hs : ∀ (i x : Nat) e s, r[i]? = some x → I i e s → ∃ e1, bindT t (.int (x : Int)) e = some e1 ∧ wpS (bd e1 s) { P with nx := I (i + 1), ct := I (i + 1), bk := P.nx })
    (hN : ∀ e s, I r.length e s → P.nx e s) : wpS (forN t bd (natD r) e s) P :=
  wp_fori I h0 (fun i d e s hd hI => by
    obtain ⟨x, hx, rfl⟩ := natD_get hd
    exact hs i x e s hx hI) fun e s h => hN e s (by rw [natD_len] at h; exact h)
/-- a loop over range(n) -/
theorem wp_forR {t : Tg} {bd : Enw → Sto → Out} {n : Nat} (I : Nat → Enw → Sto → Prop) (h0 : I 0 e s)
    (hs : ∀ (i : Nat) e s, i < n → I i e s → ∃ e1, bindT t (.int (i : Int)) e = some e1 ∧ wpS (bd e1 s) { P with nx := I (i + 1), ct := I (i + 1), bk := P.nx })
    (hN : ∀ e s, I n e s → P.nx e s) : wpS (forN t bd (natD (List.range n)) e s) P :=
  wp_forN I h0 (fun i x e s hx hI => by
    obtain ⟨h1, h2⟩ := List.getElem?_eq_some_iff.mp hx
    rw [List.getElem_range] at h2
    subst h2
    exact hs i e s (by simpa using h1) hI) fun e s h => hN e s (by simpa using h)
theorem idx_natD {s : Sto} {r : List Nat} {i : Nat} : idxD s (.lst (natD r)) (.int (i : Int)) = (r[i]?).map fun x : Nat => D.int (x : Int) := by
  show atI _ _ = _
  rw [atI_cast, natD_map, List.getElem?_map]
theorem idx_row {s : Sto} {r : List Nat} {i : Nat} : idxD s (rowD r) (.int (i : Int)) = (r[i]?).map fun x : Nat => D.int (x : Int) := idx_natD
/-- 2 ^ m, kept from simp -/
def two (m : Nat) : Nat := 2 ^ m
theorem two_eq {m : Nat} : two m = 2 ^ m := rfl
theorem two_le {m : Nat} (h : m ≤ 8) : two m ≤ 256 := Nat.pow_le_pow_right (n := 2) (by decide) h
theorem sizes_at {s : Sto} {m : Nat} (h : m ≤ 8) : idxD s (.ctup [(.int 1), (.int 2), (.int 4), (.int 8), (.int 16), (.int 32), (.int 64), (.int 128), (.int 256)]) (.int (m : Int)) = some (.int ((two m : Nat) : Int)) := by
  rcases (show m = 0 ∨ m = 1 ∨ m = 2 ∨ m = 3 ∨ m = 4 ∨ m = 5 ∨ m = 6 ∨ m = 7 ∨ m = 8 by omega) with rfl | rfl | rfl | rfl | rfl | rfl | rfl | rfl | rfl <;> rfl
/-- a dict by numbers -/
theorem in_dk {s : Sto} {i : Nat} {ks : List Key} {vs : List D} : cmpD s .inn (.int (i : Int)) (.dk ks vs) = some (ks.any fun q => decide (q = .inl (i : Int))) := rfl
theorem nin_dk {s : Sto} {i : Nat} {ks : List Key} {vs : List D} : cmpD s .nin (.int (i : Int)) (.dk ks vs) = some (!(ks.any fun q => decide (q = .inl (i : Int)))) := rfl
theorem any_nat {r : List Nat} {i : Nat} : (r.any fun x => decide ((Sum.inl (x : Int) : Key) = .inl (i : Int))) = decide (i ∈ r) := by
  induction r with
  | nil => simp
  | cons x r ih =>
    rw [List.any_cons, ih]
    by_cases h : i = x
    · subst h; simp
    · have : ¬ (Sum.inl (x : Int) : Key) = .inl (i : Int) := fun e => h (by have := Sum.inl.inj e; omega)
      simp [h, this]
end
end Nb
end
section
set_option Elab.async false
set_option linter.all false
set_option maxRecDepth 100000
set_option maxHeartbeats 4000000
/-! PlF: loops that return what they find -/
namespace Nb
open PySem PySem.Spec PyProof.Rows L2
theorem wp_forFind {ι : Type} {t : Tg} {bd : Enw → Sto → Out} {s : Sto} {P : Po} {h : ι → D} (g : ι → Option D) (J : Enw → Prop) : ∀ (l : List ι) (e : Enw), J e →
    (∀ x ∈ l, ∀ e, J e → ∃ e1, bindT t (h x) e = some e1 ∧ wpS (bd e1 s) ⟨fun e' s' => s' = s ∧ J e' ∧ g x = none, fun d s' => s' = s ∧ g x = some d, fun _ _ _ _ => False, fun _ _ => False, fun e' s' => s' = s ∧ J e' ∧ g x = none⟩) →
    (∀ d, l.findSome? g = some d → P.rt d s) → (l.findSome? g = none → ∀ e, J e → P.nx e s) → wpS (forN t bd (l.map h) e s) P
  | [], e, he, _, _, hn => by
    rw [List.map_nil]
    unfold forN
    exact hn rfl e he
  | x :: l, e, he, hb, hr, hn => by
    rw [List.map_cons]
    unfold forN
    obtain ⟨e1, h1, h2⟩ := hb x List.mem_cons_self e he
    rw [h1]
    dsimp only
    have nxt : ∀ e' s', (s' = s ∧ J e' ∧ g x = none) → wpS (forN t bd (l.map h) e' s') P := fun e' s' ⟨a, b, c⟩ => by
      subst a
      exact wp_forFind g J l e' b (fun y hy => hb y (List.mem_cons_of_mem _ hy)) (fun d hd => hr d (by rw [List.findSome?_cons, c]; exact hd)) fun hd => hn (by rw [List.findSome?_cons, c]; exact hd)
    cases o : bd e1 s with
    | nx e' s' => rw [o] at h2; exact nxt e' s' h2
    | ct e' s' => rw [o] at h2; exact nxt e' s' h2
    | bk e' s' => rw [o] at h2; exact h2.elim
    | rt d s' =>
      rw [o] at h2
      have h3 : s' = s ∧ g x = some d := h2
      obtain ⟨h4, h5⟩ := h3
      subst h4
      exact hr d (by rw [List.findSome?_cons, h5])
    | ex c fs e s => rw [o] at h2; exact h2.elim
    | bad => rw [o] at h2; exact h2.elim
section
variable {T : Tb} {cl : Cl} {e : Enw} {st : Sto} {P : Po} {a k : Ex} {i : Nat}
@[simp] theorem w_aug {o : Bo} : wpS (exs T cl (.aug i o a) e st) P ↔ ∃ x, e[i]? = some (.va (.int x)) ∧ wpR ((sem T cl a).v e st) (fun y s1 => ∃ j z, y = .int j ∧ Nb.binI o x j = some z ∧ P.nx (e.set i (.va (.int z))) s1) (fun c fs s => P.ex c fs e s) := by
  simp only [exs]
  rcases h : e[i]? with _ | ⟨_ | d | d | ⟨x, y⟩⟩ <;> simp
  cases d <;> simp
  constructor <;> intro h <;> refine h.mono (fun a s h => ?_) fun _ _ _ h => h
  · split at h
    · split at h
      · exact ⟨_, rfl, _, by assumption, h⟩
      · exact h.elim
    · exact h.elim
  · obtain ⟨j, rfl, z, h2, h3⟩ := h
    simp only [h2]
    exact h3
@[simp] theorem w_setO : wpS (exs T cl (.setO i k a) e st) P ↔ ∃ c, e[i]? = some (.ow c) ∧ wpR ((sem T cl a).v e st) (fun d s1 => wpR ((sem T cl k).v e s1) (fun q s2 => ∃ c', Nb.setD c q d = some c' ∧ P.nx (e.set i (.ow c')) s2) (fun c fs s => P.ex c fs e s)) (fun c fs s => P.ex c fs e s) := by
  simp only [exs]
  rcases h : e[i]? with _ | ⟨_ | d | d | ⟨x, y⟩⟩ <;> simp
  constructor <;> intro h <;> refine h.mono (fun a s h => h.mono (fun a s h => ?_) fun _ _ _ h => h) fun _ _ _ h => h
  · split at h
    · exact ⟨_, by assumption, h⟩
    · exact h.elim
  · obtain ⟨c', h2, h3⟩ := h
    rw [h2]; exact h3
end
end Nb
end
section
set_option Elab.async false
set_option linter.all false
set_option maxRecDepth 100000
set_option maxHeartbeats 4000000
/-! PlG: a loop as a fold over what it changes -/
namespace Nb
open PySem PySem.Spec PyProof.Rows L2
theorem wp_forFold {ι α : Type} {t : Tg} {bd : Enw → Sto → Out} {s : Sto} {P : Po} {h : ι → D} (f : α → ι → α) (E : α → Enw → Prop) (Iv : α → Prop) : ∀ (l : List ι) (a : α) (e : Enw), E a e → Iv a →
    (∀ x ∈ l, ∀ a e, Iv a → E a e → ∃ e1, bindT t (h x) e = some e1 ∧ wpS (bd e1 s) ⟨fun e' s' => s' = s ∧ E (f a x) e' ∧ Iv (f a x), fun _ _ => False, fun _ _ _ _ => False, fun _ _ => False, fun e' s' => s' = s ∧ E (f a x) e' ∧ Iv (f a x)⟩) →
    (∀ e, E (l.foldl f a) e → Iv (l.foldl f a) → P.nx e s) → wpS (forN t bd (l.map h) e s) P
  | [], a, e, he, hi, _, hn => by
    rw [List.map_nil]
    unfold forN
    exact hn e he hi
  | x :: l, a, e, he, hi, hb, hn => by
    rw [List.map_cons]
    unfold forN
    obtain ⟨e1, h1, h2⟩ := hb x List.mem_cons_self a e hi he
    rw [h1]
    dsimp only
    have nxt : ∀ e' s', (s' = s ∧ E (f a x) e' ∧ Iv (f a x)) → wpS (forN t bd (l.map h) e' s') P := fun e' s' ⟨p, q, r⟩ => by
      subst p
      exact wp_forFold f E Iv l (f a x) e' q r (fun y hy => hb y (List.mem_cons_of_mem _ hy)) fun e he hi => hn e he hi
    cases o : bd e1 s with
    | nx e' s' => rw [o] at h2; exact nxt e' s' h2
    | ct e' s' => rw [o] at h2; exact nxt e' s' h2
    | bk e' s' => rw [o] at h2; exact h2.elim
    | rt d s' => rw [o] at h2; exact h2.elim
    | ex c fs e s => rw [o] at h2; exact h2.elim
    | bad => rw [o] at h2; exact h2.elim
end Nb
end
section
set_option Elab.async false
set_option linter.all false
set_option maxRecDepth 100000
set_option maxHeartbeats 4000000
/-! NbT_k46: the law's program as data of the layer (printed by gen.py) -/
namespace T46
open PySem PySem.Spec PyProof.Rows L2 Nb
def top (i : Nat) : Stmt := PySem.Challenge.pw_neverboth_k46_whole_alternations_wires_a.main.body.getD i (.Pass ⟨0, 0, 0, 0⟩)
def i_is_integer : Ss := (.cons (.ret (.bop true (.isi (.var 0) ["int"]) (.nt (.isi (.var 0) ["bool"])))) .nil)
def f_is_integer : Df := ⟨"is_integer", top 5, ["value"], ["value"], i_is_integer⟩
def i_is_below : Ss := (.cons (.ret (.bop true (.cal "is_integer" (.cons (.var 0) .nil) []) (.chn .le .lt (.kon (.int 0)) (.var 0) (.var 1)))) .nil)
def f_is_below : Df := ⟨"is_below", top 6, ["value", "bound"], ["value", "bound"], i_is_below⟩
def i_is_bit : Ss := (.cons (.ret (.cal "is_below" (.cons (.var 0) (.cons (.kon (.int 2)) .nil)) [])) .nil)
def f_is_bit : Df := ⟨"is_bit", top 7, ["value"], ["value"], i_is_bit⟩
def i_is_bits : Ss := (.cons (.ret (.bop true (.isi (.var 0) ["tuple"]) (.bi .all (.cons (.lc [1] (.nm 1) (.seq (.var 0)) .no (.cal "is_bit" (.cons (.var 1) .nil) [])) .nil)))) .nil)
def f_is_bits : Df := ⟨"is_bits", top 8, ["value", "worth"], ["value"], i_is_bits⟩
def i_need_between : Ss := (.cons (.iff (.bop false (.nt (.cal "is_integer" (.cons (.var 0) .nil) [])) (.nt (.chn .le .le (.var 1) (.var 0) (.var 2)))) (.cons (.rai "InvalidSize" (.cons (.var 3) .nil)) .nil) .nil) .nil)
def f_need_between : Df := ⟨"need_between", top 9, ["value", "least", "most", "word"], ["value", "least", "most", "word"], i_need_between⟩
def i_settings_of : Ss := (.cons (.drop (.cal "need_between" (.cons (.var 0) (.cons (.kon (.int 0)) (.cons (.glb "MOST_INPUTS") (.cons (.kon (.str "many")) .nil)))) [])) (.cons (.asg (.nm 1) (.lst (.cons (.tup .nil) .nil))) (.cons (.forr (.nm 2) (.rng (.cons (.var 0) .nil)) (.cons (.asg (.nm 1) (.lc2 [3, 4] [4] (.nm 3) (.seq (.var 1)) (.nm 4) (.seq (.tup (.cons (.kon (.int 0)) (.cons (.kon (.int 1)) .nil)))) .no (.bin .add (.var 3) (.tup (.cons (.var 4) .nil))))) .nil)) (.cons (.ret (.bi .tup (.cons (.var 1) .nil))) .nil))))
def f_settings_of : Df := ⟨"settings_of", top 13, ["many", "rows", "turn", "row", "worth"], ["many"], i_settings_of⟩
def i_number_of : Ss := (.cons (.asg (.nm 1) (.kon (.int 0))) (.cons (.forr (.nm 2) (.seq (.var 0)) (.cons (.asg (.nm 1) (.bin .add (.bin .mul (.var 1) (.kon (.int 2))) (.var 2))) .nil)) (.cons (.ret (.var 1)) .nil)))
def f_number_of : Df := ⟨"number_of", top 14, ["setting", "result", "worth"], ["setting"], i_number_of⟩
def i_choices_of : Ss := (.cons (.iff (.cmp .eq (.var 1) (.kon (.int 0))) (.cons (.ret (.lst (.cons (.tup .nil) .nil))) .nil) .nil) (.cons (.ret (.lc2 [2, 3] [3] (.nm 2) (.seq (.cal "choices_of" (.cons (.var 0) (.cons (.bin .sub (.var 1) (.kon (.int 1))) .nil)) [])) (.nm 3) (.rng (.cons (.ite (.var 2) (.bin .add (.idx (.var 2) (.un .neg (.kon (.int 1)))) (.kon (.int 1))) (.kon (.int 0))) (.cons (.var 0) .nil))) .no (.bin .add (.var 2) (.tup (.cons (.var 3) .nil))))) .nil))
def f_choices_of : Df := ⟨"choices_of", top 16, ["many", "size", "row", "at"], ["many", "size"], i_choices_of⟩
def i_follows : Ss := (.cons (.asg (.nm 2) (.idx (.var 0) (.var 1))) (.cons (.iff (.bop false (.nt (.cal "is_bits" (.cons (.var 2) .nil) [])) (.cmp .eq (.bi .len (.cons (.var 2) .nil)) (.kon (.int 0)))) (.cons (.ret (.kon (.bl false))) .nil) .nil) (.cons (.ret (.bop false (.cmp .eq (.var 1) (.kon (.int 0))) (.bop true (.cmp .eq (.bi .len (.cons (.var 2) .nil)) (.bi .len (.cons (.idx (.var 0) (.kon (.int 0))) .nil))) (.cmp .lt (.idx (.var 0) (.bin .sub (.var 1) (.kon (.int 1)))) (.var 2))))) .nil)))
def f_follows : Df := ⟨"follows", top 18, ["value", "at", "entry"], ["value", "at"], i_follows⟩
def i_need_settings : Ss := (.cons (.iff (.bop false (.nt (.isi (.var 0) ["tuple"])) (.cmp .eq (.bi .len (.cons (.var 0) .nil)) (.kon (.int 0)))) (.cons (.rai "InvalidLot" (.cons (.un .neg (.kon (.int 1))) .nil)) .nil) .nil) (.cons (.forr (.nm 1) (.rng (.cons (.bi .len (.cons (.var 0) .nil)) .nil)) (.cons (.iff (.nt (.cal "follows" (.cons (.var 0) (.cons (.var 1) .nil)) [])) (.cons (.rai "InvalidLot" (.cons (.var 1) .nil)) .nil) .nil) .nil)) .nil))
def f_need_settings : Df := ⟨"need_settings", top 20, ["value", "at"], ["value"], i_need_settings⟩
def i_outside_of : Ss := (.cons (.asg (.nm 1) (.dcK [2] (.nm 2) (.seq (.var 0)) (.cal "number_of" (.cons (.var 2) .nil) []) (.kon (.bl true)))) (.cons (.ret (.lc [3] (.nm 3) (.rng (.cons (.idx (.glb "SIZES") (.bi .len (.cons (.idx (.var 0) (.kon (.int 0))) .nil))) .nil)) (.so (.cmp .nin (.var 3) (.var 1))) (.var 3))) .nil))
def f_outside_of : Df := ⟨"outside_of", top 22, ["settings", "held", "setting", "number"], ["settings"], i_outside_of⟩
def i_levels_of : Ss := (.cons (.asg (.nm 2) (.dcK [3] (.nm 3) (.seq (.var 1)) (.var 3) (.kon (.bl true)))) (.cons (.asgO 4 (.lst .nil)) (.cons (.forr (.nm 3) (.rng (.cons (.idx (.glb "SIZES") (.var 0)) .nil)) (.cons (.asg (.nm 5) (.ite (.cmp .inn (.var 3) (.var 2)) (.kon (.int 1)) (.kon (.int 0)))) (.cons (.forr (.nm 6) (.seq (.slc (.glb "SIZES") .no (.so (.var 0)))) (.cons (.iff (.cmp .ne (.bin .band (.var 3) (.var 6)) (.kon (.int 0))) (.cons (.asg (.nm 7) (.bin .bxor (.var 3) (.var 6))) (.cons (.asg (.nm 5) (.bi .max2 (.cons (.var 5) (.cons (.bin .add (.idx (.peek 4) (.var 7)) (.ite (.bop true (.cmp .inn (.var 3) (.var 2)) (.cmp .nin (.var 7) (.var 2))) (.kon (.int 1)) (.kon (.int 0)))) .nil)))) .nil)) .nil) .nil)) (.cons (.appO 4 (.var 5)) .nil)))) (.cons (.frz 4) (.cons (.ret (.var 4)) .nil)))))
def f_levels_of : Df := ⟨"levels_of", top 23, ["many", "outside", "held", "number", "levels", "level", "size", "low"], ["many", "outside"], i_levels_of⟩
def i_alternation : Ss := (.cons (.drop (.cal "need_settings" (.cons (.var 0) .nil) [])) (.cons (.par [(1, false), (2, false)] (.cons (.bi .len (.cons (.idx (.var 0) (.kon (.int 0))) .nil)) (.cons (.cal "outside_of" (.cons (.var 0) .nil) []) .nil))) (.cons (.iff (.cmp .eq (.var 2) (.lst .nil)) (.cons (.ret (.tup .nil)) .nil) .nil) (.cons (.asg (.tp [3, 4]) (.tup (.cons (.cal "levels_of" (.cons (.var 1) (.cons (.var 2) .nil)) []) (.cons (.cal "settings_of" (.cons (.var 1) .nil) []) .nil)))) (.cons (.asg (.nm 5) (.lc [6] (.nm 6) (.seq (.var 0)) .no (.cal "number_of" (.cons (.var 6) .nil) []))) (.cons (.asgO 7 (.lst (.cons (.idx (.var 2) (.mt .index (.lc [8] (.nm 8) (.seq (.var 2)) .no (.idx (.var 3) (.var 8))) (.cons (.bi .max1 (.cons (.lc [8] (.nm 8) (.seq (.var 2)) .no (.idx (.var 3) (.var 8))) .nil)) .nil))) .nil))) (.cons (.forr (.nm 9) (.rng (.cons (.bin .sub (.idx (.var 3) (.idx (.peek 7) (.kon (.int 0)))) (.kon (.int 1))) (.cons (.kon (.int 0)) (.cons (.un .neg (.kon (.int 1))) .nil)))) (.cons (.asg (.nm 10) (.idx (.lc [8] (.nm 8) (.seq (.var 5)) (.so (.bop true (.cmp .eq (.bin .band (.var 8) (.idx (.peek 7) (.un .neg (.kon (.int 1))))) (.var 8)) (.cmp .eq (.idx (.var 3) (.var 8)) (.var 9)))) (.var 8)) (.kon (.int 0)))) (.cons (.appO 7 (.var 10)) (.cons (.appO 7 (.idx (.lc [8] (.nm 8) (.seq (.var 2)) (.so (.bop true (.cmp .eq (.bin .band (.var 8) (.var 10)) (.var 8)) (.cmp .eq (.idx (.var 3) (.var 8)) (.var 9)))) (.var 8)) (.kon (.int 0)))) .nil)))) (.cons (.ret (.bi .tup (.cons (.lc [8] (.nm 8) (.seq (.rev (.peek 7))) .no (.idx (.var 4) (.var 8))) .nil))) .nil))))))))
def f_alternation : Df := ⟨"alternation", top 24, ["settings", "many", "outside", "levels", "choices", "inside", "setting", "row", "number", "level", "held"], ["settings"], i_alternation⟩
def i_hit_wires : Ss := (.cons (.drop (.cal "need_settings" (.cons (.var 0) .nil) [])) (.cons (.asg (.tp [1, 2]) (.tup (.cons (.bi .len (.cons (.idx (.var 0) (.kon (.int 0))) .nil)) (.cons (.cal "settings_of" (.cons (.bi .len (.cons (.idx (.var 0) (.kon (.int 0))) .nil)) .nil) []) .nil)))) (.cons (.asg (.nm 3) (.lc [4] (.nm 4) (.seq (.cal "outside_of" (.cons (.var 0) .nil) [])) .no (.idx (.var 2) (.var 4)))) (.cons (.forr (.nm 5) (.rng (.cons (.bin .add (.var 1) (.kon (.int 1))) .nil)) (.cons (.forr (.nm 6) (.seq (.cal "choices_of" (.cons (.var 1) (.cons (.var 5) .nil)) [])) (.cons (.iff (.bi .all (.cons (.lc [8] (.nm 8) (.seq (.var 3)) .no (.bi .any (.cons (.lc [7] (.nm 7) (.seq (.var 6)) .no (.cmp .eq (.idx (.var 8) (.var 7)) (.kon (.int 1)))) .nil))) .nil)) (.cons (.ret (.var 6)) .nil) .nil) .nil)) .nil)) (.cons (.ret (.kon .non)) .nil)))))
def f_hit_wires : Df := ⟨"hit_wires", top 25, ["settings", "many", "choices", "outside", "number", "size", "wires", "wire", "setting"], ["settings"], i_hit_wires⟩
def i_parts_within : Ss := (.cons (.iff (.cmp .eq (.var 0) (.lst .nil)) (.cons (.ret (.var 1)) .nil) .nil) (.cons (.forr (.nm 3) (.rng (.cons (.bi .min2 (.cons (.bin .add (.bi .len (.cons (.var 1) .nil)) (.kon (.int 1))) (.cons (.var 2) .nil))) .nil)) (.cons (.asg (.nm 4) (.ite (.cmp .lt (.var 3) (.bi .len (.cons (.var 1) .nil))) (.idx (.var 1) (.var 3)) (.lst .nil))) (.cons (.iff (.bi .all (.cons (.lc [5] (.nm 5) (.seq (.var 4)) .no (.cmp .ne (.bin .band (.var 5) (.idx (.var 0) (.kon (.int 0)))) (.kon (.int 0)))) .nil)) (.cons (.asg (.nm 6) (.cal "parts_within" (.cons (.slc (.var 0) (.so (.kon (.int 1))) .no) (.cons (.bin .add (.bin .add (.slc (.var 1) .no (.so (.var 3))) (.lst (.cons (.bin .add (.var 4) (.lst (.cons (.idx (.var 0) (.kon (.int 0))) .nil))) .nil))) (.slc (.var 1) (.so (.bin .add (.var 3) (.kon (.int 1)))) .no)) (.cons (.var 2) .nil))) [])) (.cons (.iff (.cmp .isn (.var 6) (.kon .non)) (.cons (.ret (.var 6)) .nil) .nil) .nil)) .nil) .nil))) (.cons (.ret (.kon .non)) .nil)))
def f_parts_within : Df := ⟨"parts_within", top 26, ["rest", "parts", "most", "at", "part", "number", "found"], ["rest", "parts", "most"], i_parts_within⟩
def i_fewest_parts : Ss := (.cons (.par [(1, false), (2, false)] (.cons (.cal "parts_within" (.cons (.var 0) (.cons (.lst .nil) (.cons (.kon (.int 0)) .nil))) []) (.cons (.kon (.int 0)) .nil))) (.cons (.whl (.cmp .is (.var 1) (.kon .non)) (.cons (.aug 2 .add (.kon (.int 1))) (.cons (.asg (.nm 1) (.cal "parts_within" (.cons (.var 0) (.cons (.lst .nil) (.cons (.var 2) .nil))) [])) .nil))) (.cons (.ret (.lc [3] (.nm 3) (.seq (.var 1)) .no (.bi .srt (.cons (.var 3) .nil)))) .nil)))
def f_fewest_parts : Df := ⟨"fewest_parts", top 27, ["outside", "parts", "most", "part"], ["outside"], i_fewest_parts⟩
def i_meeting_parts : Ss := (.cons (.drop (.cal "need_settings" (.cons (.var 0) .nil) [])) (.cons (.asg (.tp [1, 2]) (.tup (.cons (.cal "outside_of" (.cons (.var 0) .nil) []) (.cons (.cal "settings_of" (.cons (.bi .len (.cons (.idx (.var 0) (.kon (.int 0))) .nil)) .nil) []) .nil)))) (.cons (.iff (.cmp .inn (.kon (.int 0)) (.var 1)) (.cons (.ret (.kon .non)) .nil) .nil) (.cons (.ret (.bi .tup (.cons (.lc [4] (.nm 4) (.seq (.cal "fewest_parts" (.cons (.var 1) .nil) [])) .no (.bi .tup (.cons (.lc [3] (.nm 3) (.seq (.var 4)) .no (.idx (.var 2) (.var 3))) .nil))) .nil))) .nil))))
def f_meeting_parts : Df := ⟨"meeting_parts", top 28, ["settings", "outside", "choices", "number", "part"], ["settings"], i_meeting_parts⟩
def i_l_start : Ss := (.cons (.asg (.nm 2) (.lc [3] (.nm 3) (.seq (.slc (.var 0) .no (.so (.kon (.int 63))))) .no (.bi .abs (.cons (.bi .int (.cons (.var 3) .nil)) .nil)))) (.cons (.asg (.nm 4) (.bin .add (.bin .mul (.kon (.int 7919)) (.var 1)) (.kon (.int 977)))) (.cons (.forr (.nm 3) (.seq (.var 2)) (.cons (.asg (.nm 4) (.bin .mod (.bi .int (.cons (.bin .add (.bin .add (.bin .mul (.var 4) (.kon (.int 69621))) (.bin .mod (.var 3) (.kon (.int 2147483563)))) (.kon (.int 37))) .nil)) (.kon (.int 2147483647)))) .nil)) (.cons (.ret (.new (.lst (.cons (.new (.lc [3] (.nm 3) (.seq (.var 2)) (.so (.cmp .ge (.var 3) (.bin .pow (.kon (.int 10)) (.kon (.int 18))))) (.var 3))) (.cons (.var 4) .nil))))) .nil))))
def f_l_start : Df := ⟨"_law_start", top 30, ["_law_script", "_law_salt", "_law_cells", "_law_cell", "_law_blend"], ["_law_script", "_law_salt"], i_l_start⟩
def i_l_pick : Ss := (.cons (.whl (.bop true (.cmp .ne (.idx (.var 0) (.kon (.int 0))) (.lst .nil)) (.cmp .eq (.idx (.idx (.var 0) (.kon (.int 0))) (.kon (.int 0))) (.kon (.int 0)))) (.cons (.drop (.popR (.idx (.var 0) (.kon (.int 0))) (.so (.kon (.int 0))))) .nil)) (.cons (.iff (.cmp .ne (.idx (.var 0) (.kon (.int 0))) (.lst .nil)) (.cons (.asg (.nm 2) (.bi .int (.cons (.idx (.idx (.var 0) (.kon (.int 0))) (.kon (.int 0))) .nil))) (.cons (.setR (.idx (.var 0) (.kon (.int 0))) (.kon (.int 0)) (.bin .fdiv (.var 2) (.var 1))) (.cons (.ret (.bin .mod (.var 2) (.var 1))) .nil))) .nil) (.cons (.setR (.var 0) (.kon (.int 1)) (.bin .mod (.bi .int (.cons (.bin .add (.bin .mul (.idx (.var 0) (.kon (.int 1))) (.kon (.int 69621))) (.kon (.int 41))) .nil)) (.kon (.int 2147483647)))) (.cons (.ret (.bin .mod (.bi .int (.cons (.bin .fdiv (.idx (.var 0) (.kon (.int 1))) (.kon (.int 128))) .nil)) (.var 1))) .nil))))
def f_l_pick : Df := ⟨"_law_pick", top 31, ["_law_deal", "_law_bound", "_law_rest"], ["_law_deal", "_law_bound"], i_l_pick⟩
def i_l_from : Ss := (.cons (.ret (.idx (.var 1) (.cal "_law_pick" (.cons (.var 0) (.cons (.bi .len (.cons (.var 1) .nil)) .nil)) []))) .nil)
def f_l_from : Df := ⟨"_law_from", top 32, ["_law_deal", "_law_some_here"], ["_law_deal", "_law_some_here"], i_l_from⟩
def i_l_all : Ss := (.cons (.asg (.nm 1) (.idx (.lst (.cons (.kon (.int 1)) (.cons (.kon (.int 2)) (.cons (.kon (.int 4)) (.cons (.kon (.int 8)) (.cons (.kon (.int 16)) (.cons (.kon (.int 32)) (.cons (.kon (.int 64)) (.cons (.kon (.int 128)) (.cons (.kon (.int 256)) .nil)))))))))) (.var 0))) (.cons (.asg (.nm 2) (.slc (.lst (.cons (.kon (.int 128)) (.cons (.kon (.int 64)) (.cons (.kon (.int 32)) (.cons (.kon (.int 16)) (.cons (.kon (.int 8)) (.cons (.kon (.int 4)) (.cons (.kon (.int 2)) (.cons (.kon (.int 1)) .nil))))))))) (.so (.bin .sub (.kon (.int 8)) (.var 0))) .no)) (.cons (.ret (.lc [4] (.nm 4) (.rng (.cons (.var 1) .nil)) .no (.bi .tup (.cons (.lc [3] (.nm 3) (.seq (.var 2)) .no (.ite (.cmp .ne (.bin .band (.var 4) (.var 3)) (.kon (.int 0))) (.kon (.int 1)) (.kon (.int 0)))) .nil)))) .nil)))
def f_l_all : Df := ⟨"_law_all", top 33, ["_law_many", "_law_size", "_law_places", "_law_place", "_law_at"], ["_law_many"], i_l_all⟩
def i_l_told : Ss := (.cons (.asg (.nm 2) (.cal "_law_all" (.cons (.var 0) .nil) [])) (.cons (.ret (.bi .tup (.cons (.lc [3] (.nm 3) (.seq (.var 1)) .no (.idx (.var 2) (.var 3))) .nil))) .nil))
def f_l_told : Df := ⟨"_law_told", top 34, ["_law_many", "_law_numbers", "_law_choices", "_law_at"], ["_law_many", "_law_numbers"], i_l_told⟩
def i_l_levels : Ss := (.cons (.asgO 2 (.lst .nil)) (.cons (.forr (.nm 3) (.rng (.cons (.var 0) .nil)) (.cons (.asg (.nm 4) (.ite (.cmp .inn (.var 3) (.var 1)) (.kon (.int 0)) (.kon (.int 1)))) (.cons (.asg (.nm 5) (.lc [6] (.nm 6) (.rng (.cons (.var 3) .nil)) (.so (.cmp .eq (.bin .band (.var 6) (.var 3)) (.var 6))) (.bin .add (.idx (.peek 2) (.var 6)) (.ite (.cmp .inn (.var 6) (.var 1)) (.var 4) (.kon (.int 0)))))) (.cons (.appO 2 (.bi .max1 (.cons (.bin .add (.var 5) (.lst (.cons (.var 4) .nil))) .nil))) .nil)))) (.cons (.frz 2) (.cons (.ret (.var 2)) .nil))))
def f_l_levels : Df := ⟨"_law_levels", top 35, ["_law_size", "_law_row", "_law_levels_here", "_law_at", "_law_out", "_law_found", "_law_low"], ["_law_size", "_law_row"], i_l_levels⟩
def i_l_longest : Ss := (.cons (.asg (.nm 2) (.cal "_law_levels" (.cons (.var 0) (.cons (.var 1) .nil)) [])) (.cons (.ret (.bi .max1 (.cons (.bin .add (.lst (.cons (.kon (.int 0)) .nil)) (.lc [3] (.nm 3) (.rng (.cons (.var 0) .nil)) (.so (.cmp .nin (.var 3) (.var 1))) (.idx (.var 2) (.var 3)))) .nil))) .nil))
def f_l_longest : Df := ⟨"_law_longest", top 36, ["_law_size", "_law_row", "_law_levels_here", "_law_at"], ["_law_size", "_law_row"], i_l_longest⟩
def i_l_hits : Ss := (.cons (.asgO 2 (.lst .nil)) (.cons (.forr (.nm 3) (.rng (.cons (.idx (.lst (.cons (.kon (.int 1)) (.cons (.kon (.int 2)) (.cons (.kon (.int 4)) (.cons (.kon (.int 8)) (.cons (.kon (.int 16)) (.cons (.kon (.int 32)) .nil))))))) (.var 0)) .nil)) (.cons (.iff (.cmp .eq (.lc [4] (.nm 4) (.seq (.var 1)) (.so (.cmp .eq (.bin .band (.var 4) (.var 3)) (.kon (.int 0)))) (.var 4)) (.lst .nil)) (.cons (.asg (.nm 5) (.lc [6] (.nm 6) (.rng (.cons (.var 0) .nil)) (.so (.cmp .ne (.bin .band (.var 3) (.idx (.lst (.cons (.kon (.int 16)) (.cons (.kon (.int 8)) (.cons (.kon (.int 4)) (.cons (.kon (.int 2)) (.cons (.kon (.int 1)) .nil)))))) (.bin .add (.bin .sub (.kon (.int 5)) (.var 0)) (.var 6)))) (.kon (.int 0)))) (.var 6))) (.cons (.appO 2 (.tup (.cons (.bi .len (.cons (.var 5) .nil)) (.cons (.bi .tup (.cons (.var 5) .nil)) .nil)))) .nil)) .nil) .nil)) (.cons (.ret (.idx (.bi .min1 (.cons (.peek 2) .nil)) (.kon (.int 1)))) .nil)))
def f_l_hits : Df := ⟨"_law_hits", top 37, ["_law_many", "_law_outside", "_law_found", "_law_mask", "_law_at", "_law_wires", "_law_wire"], ["_law_many", "_law_outside"], i_l_hits⟩
def i_l_parts : Ss := (.cons (.iff (.cmp .eq (.var 1) (.lst .nil)) (.cons (.ret (.kon (.int 0))) .nil) .nil) (.cons (.asg (.nm 2) (.lc [4] (.nm 4) (.seq (.var 1)) .no (.tup (.cons (.var 4) (.cons (.lc [3] (.nm 3) (.seq (.var 1)) (.so (.cmp .eq (.bin .band (.var 4) (.var 3)) (.kon (.int 0)))) (.var 3)) .nil))))) (.cons (.iff (.cmp .eq (.lc [4, 5] (.tp [4, 5]) (.seq (.var 2)) (.so (.cmp .ne (.var 5) (.lst .nil))) (.var 4)) (.lst .nil)) (.cons (.ret (.kon (.int 1))) .nil) .nil) (.cons (.asgO 6 (.dE false)) (.cons (.forr (.nm 7) (.seq (.var 1)) (.cons (.iff (.cmp .nin (.var 7) (.peek 6)) (.cons (.setO 6 (.var 7) (.kon (.int 0))) .nil) .nil) (.cons (.forr (.nm 8) (.rng (.cons (.bi .len (.cons (.var 1) .nil)) .nil)) (.cons (.forr (.tp [4, 5]) (.seq (.var 2)) (.cons (.forr (.nm 3) (.seq (.var 5)) (.cons (.iff (.bop true (.cmp .inn (.var 4) (.peek 6)) (.cmp .nin (.var 3) (.peek 6))) (.cons (.setO 6 (.var 3) (.bin .sub (.kon (.int 1)) (.idx (.peek 6) (.var 4)))) .nil) .nil) .nil)) .nil)) .nil)) .nil))) (.cons (.iff (.cmp .eq (.lc [4, 5] (.tp [4, 5]) (.seq (.var 2)) (.so (.cmp .ne (.lc [3] (.nm 3) (.seq (.var 5)) (.so (.cmp .eq (.idx (.peek 6) (.var 3)) (.idx (.peek 6) (.var 4)))) (.var 3)) (.lst .nil))) (.var 4)) (.lst .nil)) (.cons (.ret (.kon (.int 2))) .nil) .nil) (.cons (.ret (.ite (.bop true (.cmp .eq (.var 0) (.kon (.int 4))) (.cmp .eq (.lc [4] (.nm 4) (.seq (.lst (.cons (.kon (.int 1)) (.cons (.kon (.int 2)) (.cons (.kon (.int 4)) (.cons (.kon (.int 8)) .nil)))))) (.so (.cmp .nin (.var 4) (.var 1))) (.var 4)) (.lst .nil))) (.kon (.int 4)) (.kon (.int 3)))) .nil)))))))
def f_l_parts : Df := ⟨"_law_parts", top 38, ["_law_many", "_law_outside", "_law_apart", "_law_other", "_law_one", "_law_others", "_law_side", "_law_start_here", "_law_turn"], ["_law_many", "_law_outside"], i_l_parts⟩
def i_l_some : Ss := (.cons (.asg (.tp [2, 3]) (.tup (.cons (.idx (.lst (.cons (.kon (.int 1)) (.cons (.kon (.int 2)) (.cons (.kon (.int 4)) (.cons (.kon (.int 8)) (.cons (.kon (.int 16)) (.cons (.kon (.int 32)) (.cons (.kon (.int 64)) .nil)))))))) (.var 1)) (.cons (.cal "_law_pick" (.cons (.var 0) (.cons (.kon (.int 6)) .nil)) []) .nil)))) (.cons (.asg (.nm 4) (.lc [5] (.nm 5) (.rng (.cons (.var 2) .nil)) (.so (.cmp .eq (.cal "_law_pick" (.cons (.var 0) (.cons (.idx (.lst (.cons (.kon (.int 2)) (.cons (.kon (.int 4)) (.cons (.kon (.int 8)) (.cons (.kon (.int 2)) (.cons (.kon (.int 8)) (.cons (.kon (.int 16)) .nil))))))) (.var 3)) .nil)) []) (.kon (.int 0)))) (.var 5))) (.cons (.iff (.cmp .inn (.var 3) (.lst (.cons (.kon (.int 2)) (.cons (.kon (.int 3)) .nil)))) (.cons (.asg (.nm 4) (.lc [5] (.nm 5) (.rng (.cons (.var 2) .nil)) (.so (.cmp .nin (.var 5) (.var 4))) (.var 5))) .nil) .nil) (.cons (.iff (.cmp .gt (.var 3) (.kon (.int 3))) (.cons (.asg (.nm 6) (.lc [7] (.nm 7) (.rng (.cons (.bin .add (.var 1) (.kon (.int 1))) .nil)) (.so (.cmp .eq (.cal "_law_pick" (.cons (.var 0) (.cons (.kon (.int 2)) .nil)) []) (.kon (.int 0)))) (.var 7))) (.cons (.asg (.nm 8) (.lc [9] (.nm 9) (.seq (.cal "_law_all" (.cons (.var 1) .nil) [])) .no (.bi .sum (.cons (.var 9) .nil)))) (.cons (.asg (.nm 4) (.lc [5] (.nm 5) (.rng (.cons (.var 2) .nil)) (.so (.cmp .ne (.cmp .inn (.idx (.var 8) (.var 5)) (.var 6)) (.cmp .inn (.var 5) (.var 4)))) (.var 5))) .nil))) .nil) (.cons (.iff (.cmp .ne (.cal "_law_pick" (.cons (.var 0) (.cons (.kon (.int 4)) .nil)) []) (.kon (.int 0))) (.cons (.asg (.nm 4) (.bi .ssrt (.cons (.bin .add (.var 4) (.lst (.cons (.kon (.int 0)) .nil))) .nil))) .nil) .nil) (.cons (.ret (.ite (.cmp .ne (.var 4) (.lst .nil)) (.var 4) (.lst (.cons (.cal "_law_pick" (.cons (.var 0) (.cons (.var 2) .nil)) []) .nil)))) .nil))))))
def f_l_some : Df := ⟨"_law_some", top 39, ["_law_deal", "_law_many", "_law_size", "_law_form", "_law_row", "_law_at", "_law_layers", "_law_turn", "_law_ones", "_law_setting"], ["_law_deal", "_law_many"], i_l_some⟩
def i_l_turns : Ss := (.cons (.asg (.nm 3) (.lc [4] (.nm 4) (.seq (.cal "_law_all" (.cons (.var 0) .nil) [])) .no (.bi .repr (.cons (.var 4) .nil)))) (.cons (.iff (.bop false (.nt (.isi (.var 2) ["tuple"])) (.cmp .ne (.lc [4] (.nm 4) (.seq (.var 2)) (.so (.cmp .nin (.bi .repr (.cons (.var 4) .nil)) (.var 3))) (.var 4)) (.lst .nil))) (.cons (.ret (.kon (.bl false))) .nil) .nil) (.cons (.asg (.nm 5) (.lc [4] (.nm 4) (.seq (.var 2)) .no (.mt .index (.var 3) (.cons (.bi .repr (.cons (.var 4) .nil)) .nil)))) (.cons (.forr (.tp [6, 7]) (.enu (.var 5)) (.cons (.iff (.cmp .ne (.cmp .inn (.var 7) (.var 1)) (.cmp .eq (.bin .band (.var 6) (.kon (.int 1))) (.kon (.int 1)))) (.cons (.ret (.kon (.bl false))) .nil) .nil) (.cons (.iff (.bop true (.cmp .gt (.var 6) (.kon (.int 0))) (.bop false (.cmp .ne (.bin .band (.idx (.var 5) (.bin .sub (.var 6) (.kon (.int 1)))) (.var 7)) (.idx (.var 5) (.bin .sub (.var 6) (.kon (.int 1))))) (.cmp .eq (.idx (.var 5) (.bin .sub (.var 6) (.kon (.int 1)))) (.var 7)))) (.cons (.ret (.kon (.bl false))) .nil) .nil) .nil))) (.cons (.asg (.nm 8) (.bi .len (.cons (.var 3) .nil))) (.cons (.ret (.cmp .eq (.bi .len (.cons (.var 2) .nil)) (.bi .max2 (.cons (.kon (.int 0)) (.cons (.bin .sub (.bin .mul (.kon (.int 2)) (.cal "_law_longest" (.cons (.var 8) (.cons (.var 1) .nil)) [])) (.kon (.int 1))) .nil))))) .nil))))))
def f_l_turns : Df := ⟨"_law_turns", top 40, ["_law_many", "_law_row", "_law_told_here", "_law_shown", "_law_one", "_law_numbers", "_law_at", "_law_number", "_law_size"], ["_law_many", "_law_row", "_law_told_here"], i_l_turns⟩
def i_l_parting : Ss := (.cons (.asg (.nm 3) (.lc [4] (.nm 4) (.seq (.cal "_law_all" (.cons (.var 0) .nil) [])) .no (.bi .repr (.cons (.var 4) .nil)))) (.cons (.iff (.nt (.isi (.var 2) ["tuple"])) (.cons (.ret (.kon (.bl false))) .nil) .nil) (.cons (.asg (.nm 5) (.lst .nil)) (.cons (.forr (.nm 6) (.seq (.var 2)) (.cons (.iff (.bop false (.nt (.isi (.var 6) ["tuple"])) (.bop false (.cmp .eq (.var 6) (.tup .nil)) (.cmp .ne (.lc [4] (.nm 4) (.seq (.var 6)) (.so (.cmp .nin (.bi .repr (.cons (.var 4) .nil)) (.var 3))) (.var 4)) (.lst .nil)))) (.cons (.ret (.kon (.bl false))) .nil) .nil) (.cons (.asg (.nm 7) (.lc [4] (.nm 4) (.seq (.var 6)) .no (.mt .index (.var 3) (.cons (.bi .repr (.cons (.var 4) .nil)) .nil)))) (.cons (.iff (.cmp .ne (.var 7) (.bi .ssrt (.cons (.var 7) .nil))) (.cons (.ret (.kon (.bl false))) .nil) .nil) (.cons (.iff (.cmp .ne (.lc [4] (.nm 4) (.seq (.var 7)) (.so (.cmp .ne (.lc [8] (.nm 8) (.seq (.var 7)) (.so (.cmp .eq (.bin .band (.var 4) (.var 8)) (.kon (.int 0)))) (.var 8)) (.lst .nil))) (.var 4)) (.lst .nil)) (.cons (.ret (.kon (.bl false))) .nil) .nil) (.cons (.asg (.nm 5) (.bin .add (.var 5) (.var 7))) .nil)))))) (.cons (.ret (.bop true (.cmp .eq (.bi .srt (.cons (.var 5) .nil)) (.var 1)) (.cmp .eq (.bi .len (.cons (.var 2) .nil)) (.cal "_law_parts" (.cons (.var 0) (.cons (.var 1) .nil)) [])))) .nil)))))
def f_l_parting : Df := ⟨"_law_parting", top 41, ["_law_many", "_law_outside", "_law_told_here", "_law_shown", "_law_one", "_law_found", "_law_part", "_law_numbers", "_law_other"], ["_law_many", "_law_outside", "_law_told_here"], i_l_parting⟩
def i_l_no_settings : Ss := (.cons (.par [(2, false), (3, false)] (.cons (.cal "_law_pick" (.cons (.var 0) (.cons (.bi .len (.cons (.var 1) .nil)) .nil)) []) (.cons (.cal "_law_pick" (.cons (.var 0) (.cons (.kon (.int 5)) .nil)) []) .nil))) (.cons (.asg (.nm 4) (.idx (.var 1) (.var 2))) (.cons (.asg (.nm 5) (.cal "_law_pick" (.cons (.var 0) (.cons (.bi .len (.cons (.var 4) .nil)) .nil)) [])) (.cons (.iff (.cmp .eq (.var 3) (.kon (.int 0))) (.cons (.ret (.tup (.cons (.cal "_law_from" (.cons (.var 0) (.cons (.lst (.cons (.kon .non) (.cons (.tup .nil) (.cons (.bi .lst (.cons (.var 1) .nil)) (.cons (.kon (.str "0")) (.cons (.kon (.int 1)) .nil)))))) .nil)) []) (.cons (.un .neg (.kon (.int 1))) .nil)))) .nil) .nil) (.cons (.iff (.cmp .eq (.var 3) (.kon (.int 1))) (.cons (.ret (.tup (.cons (.bin .add (.slc (.var 1) .no (.so (.bin .add (.var 2) (.kon (.int 1))))) (.slc (.var 1) (.so (.var 2)) .no)) (.cons (.bin .add (.var 2) (.kon (.int 1))) .nil)))) .nil) .nil) (.cons (.asg (.nm 6) (.bin .add (.bin .add (.slc (.var 4) .no (.so (.var 5))) (.tup (.cons (.cal "_law_from" (.cons (.var 0) (.cons (.lst (.cons (.kon (.int 2)) (.cons (.un .neg (.kon (.int 1))) (.cons (.kon (.bl true)) (.cons (.kon .non) (.cons (.kon (.str "0")) .nil)))))) .nil)) []) .nil))) (.slc (.var 4) (.so (.bin .add (.var 5) (.kon (.int 1)))) .no))) (.cons (.iff (.bop true (.cmp .eq (.var 3) (.kon (.int 2))) (.cmp .gt (.var 2) (.kon (.int 0)))) (.cons (.asg (.nm 6) (.cal "_law_from" (.cons (.var 0) (.cons (.lst (.cons (.slc (.var 4) .no (.so (.un .neg (.kon (.int 1))))) (.cons (.bin .add (.var 4) (.tup (.cons (.kon (.int 1)) .nil))) .nil))) .nil)) [])) .nil) .nil) (.cons (.iff (.cmp .eq (.var 3) (.kon (.int 3))) (.cons (.asg (.nm 6) (.cal "_law_from" (.cons (.var 0) (.cons (.lst (.cons (.bi .lst (.cons (.var 4) .nil)) (.cons (.kon .non) (.cons (.kon (.int 0)) (.cons (.tup .nil) .nil))))) .nil)) [])) .nil) .nil) (.cons (.ret (.tup (.cons (.bin .add (.bin .add (.slc (.var 1) .no (.so (.var 2))) (.tup (.cons (.var 6) .nil))) (.slc (.var 1) (.so (.bin .add (.var 2) (.kon (.int 1)))) .no)) (.cons (.var 2) .nil)))) .nil)))))))))
def f_l_no_settings : Df := ⟨"_law_no_settings", top 42, ["_law_deal", "_law_good", "_law_at", "_law_kind", "_law_entry", "_law_place", "_law_wrong"], ["_law_deal", "_law_good"], i_l_no_settings⟩
def i_l_heard : Ss := (.cons (.tri (.cons (.iff (.cmp .eq (.var 0) (.kon (.int 0))) (.cons (.drop (.cal "alternation" (.cons (.var 1) .nil) [])) .nil) (.cons (.iff (.cmp .eq (.var 0) (.kon (.int 1))) (.cons (.drop (.cal "hit_wires" (.cons (.var 1) .nil) [])) .nil) (.cons (.drop (.cal "meeting_parts" (.cons (.var 1) .nil) ["settings"])) .nil)) .nil)) .nil) (.cons "InvalidLot" (some 2) (.cons (.ret (.exf 2 "at")) .nil) .nil)) (.cons (.ret (.kon .non)) .nil))
def f_l_heard : Df := ⟨"_law_heard", top 43, ["_law_call", "_law_value", "e"], ["_law_call", "_law_value"], i_l_heard⟩
def i_law : Ss := (.cons (.asg (.nm 1) (.cal "_law_start" (.cons (.var 0) (.cons (.kon (.int 46)) .nil)) [])) (.cons (.forr (.nm 2) (.seq (.lst (.cons (.cal "_law_from" (.cons (.var 1) (.cons (.lst (.cons (.kon (.int 1)) (.cons (.kon (.int 2)) (.cons (.kon (.int 3)) .nil)))) .nil)) []) (.cons (.cal "_law_from" (.cons (.var 1) (.cons (.lst (.cons (.kon (.int 3)) (.cons (.kon (.int 4)) .nil))) .nil)) []) (.cons (.cal "_law_from" (.cons (.var 1) (.cons (.lst (.cons (.kon (.int 4)) (.cons (.kon (.int 4)) (.cons (.kon (.int 4)) (.cons (.kon (.int 5)) (.cons (.kon (.int 6)) .nil)))))) .nil)) []) .nil))))) (.cons (.asg (.nm 3) (.cal "_law_some" (.cons (.var 1) (.cons (.var 2) .nil)) [])) (.cons (.par [(4, false), (5, false)] (.cons (.cal "_law_told" (.cons (.var 2) (.cons (.var 3) .nil)) []) (.cons (.idx (.lst (.cons (.kon (.int 1)) (.cons (.kon (.int 2)) (.cons (.kon (.int 4)) (.cons (.kon (.int 8)) (.cons (.kon (.int 16)) (.cons (.kon (.int 32)) (.cons (.kon (.int 64)) .nil)))))))) (.var 2)) .nil))) (.cons (.asg (.nm 6) (.cal "alternation" (.cons (.var 4) .nil) [])) (.cons (.iff (.bop false (.nt (.cal "_law_turns" (.cons (.var 2) (.cons (.var 3) (.cons (.var 6) .nil))) [])) (.cmp .ne (.bi .repr (.cons (.cal "alternation" (.cons (.var 4) .nil) ["settings"]) .nil)) (.bi .repr (.cons (.var 6) .nil)))) (.cons (.ret (.kon (.bl false))) .nil) .nil) (.cons (.asg (.nm 7) (.lc [8] (.nm 8) (.rng (.cons (.var 5) .nil)) (.so (.cmp .nin (.var 8) (.var 3))) (.var 8))) (.cons (.iff (.cmp .lt (.var 2) (.kon (.int 5))) (.cons (.par [(9, false), (10, false)] (.cons (.cal "hit_wires" (.cons (.var 4) .nil) []) (.cons (.cal "meeting_parts" (.cons (.var 4) .nil) []) .nil))) (.cons (.iff (.bop true (.cmp .inn (.kon (.int 0)) (.var 7)) (.cmp .ne (.bi .repr (.cons (.lst (.cons (.var 9) (.cons (.var 10) .nil))) .nil)) (.kon (.str "[None, None]")))) (.cons (.ret (.kon (.bl false))) .nil) .nil) (.cons (.iff (.bop true (.cmp .nin (.kon (.int 0)) (.var 7)) (.nt (.cal "_law_parting" (.cons (.var 2) (.cons (.var 7) (.cons (.var 10) .nil))) []))) (.cons (.ret (.kon (.bl false))) .nil) .nil) (.cons (.iff (.bop true (.cmp .nin (.kon (.int 0)) (.var 7)) (.cmp .ne (.bi .repr (.cons (.var 9) .nil)) (.bi .repr (.cons (.cal "_law_hits" (.cons (.var 2) (.cons (.var 7) .nil)) []) .nil)))) (.cons (.ret (.kon (.bl false))) .nil) .nil) (.cons (.iff (.bop false (.cmp .ne (.bi .repr (.cons (.cal "hit_wires" (.cons (.var 4) .nil) ["settings"]) .nil)) (.bi .repr (.cons (.var 9) .nil))) (.cmp .ne (.bi .repr (.cons (.var 4) .nil)) (.bi .repr (.cons (.cal "_law_told" (.cons (.var 2) (.cons (.var 3) .nil)) []) .nil)))) (.cons (.ret (.kon (.bl false))) .nil) .nil) .nil))))) .nil) .nil))))))) (.cons (.forr (.nm 11) (.rng (.cons (.kon (.int 3)) .nil)) (.cons (.asg (.tp [12, 13]) (.cal "_law_no_settings" (.cons (.var 1) (.cons (.var 4) .nil)) [])) (.cons (.iff (.cmp .ne (.bi .repr (.cons (.cal "_law_heard" (.cons (.var 11) (.cons (.var 12) .nil)) []) .nil)) (.bi .repr (.cons (.var 13) .nil))) (.cons (.ret (.kon (.bl false))) .nil) .nil) .nil))) (.cons (.ret (.cmp .eq (.bi .repr (.cons (.cal "alternation" (.cons (.var 4) .nil) []) .nil)) (.bi .repr (.cons (.var 6) .nil)))) .nil))))
def f_law : Df := ⟨"law", top 44, ["_law_script", "_law_deal", "_law_many", "_law_row", "_law_settings", "_law_size", "_law_told_here", "_law_outside", "_law_at", "_law_hits_here", "_law_parts_here", "_law_call", "_law_wrong", "_law_due"], ["_law_script"], i_law⟩
def defs : List Df := [f_is_integer, f_is_below, f_is_bit, f_is_bits, f_need_between, f_settings_of, f_number_of, f_choices_of, f_follows, f_need_settings, f_outside_of, f_levels_of, f_alternation, f_hit_wires, f_parts_within, f_fewest_parts, f_meeting_parts, f_l_start, f_l_pick, f_l_from, f_l_all, f_l_told, f_l_levels, f_l_longest, f_l_hits, f_l_parts, f_l_some, f_l_turns, f_l_parting, f_l_no_settings, f_l_heard, f_law]
def kws : List (Str × Nat × List Str × List Nat) := [("alternation", 0, ["settings"], [0]), ("hit_wires", 0, ["settings"], [0]), ("meeting_parts", 0, ["settings"], [0])]
def consts : List (Str × D) := [("MOST_INPUTS", (.int 8)), ("SIZES", (.ctup [(.int 1), (.int 2), (.int 4), (.int 8), (.int 16), (.int 32), (.int 64), (.int 128), (.int 256)]))]
def gts : List (Str × List Int) := []
def errs : List (Str × Str) := [("InvalidLot", "at"), ("InvalidSize", "word")]
def hns : List Str := ["InvalidLot", "InvalidSize"]
def subs : List (Str × Str) := [("InvalidLot", "InvalidLot"), ("InvalidLot", "GateError"), ("InvalidSize", "InvalidSize"), ("InvalidSize", "GateError")]
def pk : Pk := ⟨defs, kws, consts, gts, errs, hns, subs⟩
theorem tx : pk.txB = true := by decide +kernel
theorem kb0 {K : PySem.W.Frag} {fa : Addr} {fd : FuncData} (F : FunD K f_alternation.nm f_alternation.nm (defArgs f_alternation.st) (defBody f_alternation.st) (defScope f_alternation.st) [] [] fa fd) : KB K fd f_alternation.ps 0 ["settings"] [0] := by
  obtain ⟨oc, od, dV, kV, doc, pm, an, cdv, ct, osl, rfl, lk, hcd, hD, hK⟩ := F.ex
  rcases hD with ⟨_, rfl⟩ | ⟨e, _⟩
  · intro s us ws zs X h1 h2 hp
    match us, ws, h1, h2, hp with
    | [], [w0], _, _, hp =>
      cases hp
      exact .of_eq rfl
  · exact absurd rfl e
theorem kb1 {K : PySem.W.Frag} {fa : Addr} {fd : FuncData} (F : FunD K f_hit_wires.nm f_hit_wires.nm (defArgs f_hit_wires.st) (defBody f_hit_wires.st) (defScope f_hit_wires.st) [] [] fa fd) : KB K fd f_hit_wires.ps 0 ["settings"] [0] := by
  obtain ⟨oc, od, dV, kV, doc, pm, an, cdv, ct, osl, rfl, lk, hcd, hD, hK⟩ := F.ex
  rcases hD with ⟨_, rfl⟩ | ⟨e, _⟩
  · intro s us ws zs X h1 h2 hp
    match us, ws, h1, h2, hp with
    | [], [w0], _, _, hp =>
      cases hp
      exact .of_eq rfl
  · exact absurd rfl e
theorem kb2 {K : PySem.W.Frag} {fa : Addr} {fd : FuncData} (F : FunD K f_meeting_parts.nm f_meeting_parts.nm (defArgs f_meeting_parts.st) (defBody f_meeting_parts.st) (defScope f_meeting_parts.st) [] [] fa fd) : KB K fd f_meeting_parts.ps 0 ["settings"] [0] := by
  obtain ⟨oc, od, dV, kV, doc, pm, an, cdv, ct, osl, rfl, lk, hcd, hD, hK⟩ := F.ex
  rcases hD with ⟨_, rfl⟩ | ⟨e, _⟩
  · intro s us ws zs X h1 h2 hp
    match us, ws, h1, h2, hp with
    | [], [w0], _, _, hp =>
      cases hp
      exact .of_eq rfl
  · exact absurd rfl e
theorem kbs {K : PySem.W.Frag} : ∀ e ∈ pk.kws, ∀ d, findF pk.defs e.1 = some d → ∀ fa fd, FunD K d.nm d.nm (defArgs d.st) (defBody d.st) (defScope d.st) [] [] fa fd → KB K fd d.ps e.2.1 e.2.2.1 e.2.2.2 := by
  intro e he d hd fa fd F
  simp only [pk, kws, List.mem_cons, List.not_mem_nil, or_false] at he
  rcases he with rfl | rfl | rfl
  · have hd2 : d = f_alternation := Option.some.inj (hd.symm.trans (by rfl))
    subst hd2
    exact kb0 F
  · have hd2 : d = f_hit_wires := Option.some.inj (hd.symm.trans (by rfl))
    subst hd2
    exact kb1 F
  · have hd2 : d = f_meeting_parts := Option.some.inj (hd.symm.trans (by rfl))
    subst hd2
    exact kb2 F
def loose0 : List Str := ["__name__", "GateError", "InvalidLot", "InvalidSize", "is_integer", "is_below", "is_bit", "is_bits", "need_between", "MOST_INPUTS", "SIZES", "settings_of", "number_of", "choices_of", "follows", "need_settings", "outside_of", "levels_of", "alternation", "hit_wires", "parts_within", "fewest_parts", "meeting_parts", "_law_start", "_law_pick", "_law_from", "_law_all", "_law_told", "_law_levels", "_law_longest"]
def loose1 : List Str := ["_law_hits", "_law_parts", "_law_some", "_law_turns", "_law_parting", "_law_no_settings", "_law_heard"]
def loose : List Str := loose0 ++ loose1
abbrev R : PySem.W.OpenRow := PySem.W.OpenLaw.row PySem.Challenge.rw_neverboth_k46_whole_alternations_wires_a
abbrev hk : PySem.W.Hook := pk.hook R.prog 5
def ob (s : PySem.W.SharedT) : AlN := pk.obsG R.prog 5 (HandSHeadRun.getT s)
theorem ob_eq (s : PySem.W.SharedT) : ob s = hk.obs s.abs := Pk.obsG_eq (HandSHeadRun.getT_eq s)
end T46
end
section
set_option Elab.async false
set_option linter.all false
set_option maxRecDepth 100000
/-! NbU_k46: facts by names (printed by gen.py) -/
namespace T46
open PySem PySem.Spec PyProof.Rows L2 Nb
@[simp] theorem fps_is_integer : pk.T.fps "is_integer" = some (["value"] : List Str) := rfl
theorem u_is_integer (n : Nat) (x0 : D) (st : Sto) : clN pk.T pk.defs (n + 1) "is_integer" [x0] st = outR (exss pk.T (clN pk.T pk.defs n) i_is_integer [.va x0] st) := rfl
@[simp] theorem fps_is_below : pk.T.fps "is_below" = some (["value", "bound"] : List Str) := rfl
theorem u_is_below (n : Nat) (x0 x1 : D) (st : Sto) : clN pk.T pk.defs (n + 1) "is_below" [x0, x1] st = outR (exss pk.T (clN pk.T pk.defs n) i_is_below [.va x0, .va x1] st) := rfl
@[simp] theorem fps_is_bit : pk.T.fps "is_bit" = some (["value"] : List Str) := rfl
theorem u_is_bit (n : Nat) (x0 : D) (st : Sto) : clN pk.T pk.defs (n + 1) "is_bit" [x0] st = outR (exss pk.T (clN pk.T pk.defs n) i_is_bit [.va x0] st) := rfl
@[simp] theorem fps_is_bits : pk.T.fps "is_bits" = some (["value"] : List Str) := rfl
theorem u_is_bits (n : Nat) (x0 : D) (st : Sto) : clN pk.T pk.defs (n + 1) "is_bits" [x0] st = outR (exss pk.T (clN pk.T pk.defs n) i_is_bits [.va x0, .no] st) := rfl
@[simp] theorem fps_need_between : pk.T.fps "need_between" = some (["value", "least", "most", "word"] : List Str) := rfl
theorem u_need_between (n : Nat) (x0 x1 x2 x3 : D) (st : Sto) : clN pk.T pk.defs (n + 1) "need_between" [x0, x1, x2, x3] st = outR (exss pk.T (clN pk.T pk.defs n) i_need_between [.va x0, .va x1, .va x2, .va x3] st) := rfl
@[simp] theorem fps_settings_of : pk.T.fps "settings_of" = some (["many"] : List Str) := rfl
theorem u_settings_of (n : Nat) (x0 : D) (st : Sto) : clN pk.T pk.defs (n + 1) "settings_of" [x0] st = outR (exss pk.T (clN pk.T pk.defs n) i_settings_of [.va x0, .no, .no, .no, .no] st) := rfl
@[simp] theorem fps_number_of : pk.T.fps "number_of" = some (["setting"] : List Str) := rfl
theorem u_number_of (n : Nat) (x0 : D) (st : Sto) : clN pk.T pk.defs (n + 1) "number_of" [x0] st = outR (exss pk.T (clN pk.T pk.defs n) i_number_of [.va x0, .no, .no] st) := rfl
@[simp] theorem fps_choices_of : pk.T.fps "choices_of" = some (["many", "size"] : List Str) := rfl
theorem u_choices_of (n : Nat) (x0 x1 : D) (st : Sto) : clN pk.T pk.defs (n + 1) "choices_of" [x0, x1] st = outR (exss pk.T (clN pk.T pk.defs n) i_choices_of [.va x0, .va x1, .no, .no] st) := rfl
@[simp] theorem fps_follows : pk.T.fps "follows" = some (["value", "at"] : List Str) := rfl
theorem u_follows (n : Nat) (x0 x1 : D) (st : Sto) : clN pk.T pk.defs (n + 1) "follows" [x0, x1] st = outR (exss pk.T (clN pk.T pk.defs n) i_follows [.va x0, .va x1, .no] st) := rfl
@[simp] theorem fps_need_settings : pk.T.fps "need_settings" = some (["value"] : List Str) := rfl
theorem u_need_settings (n : Nat) (x0 : D) (st : Sto) : clN pk.T pk.defs (n + 1) "need_settings" [x0] st = outR (exss pk.T (clN pk.T pk.defs n) i_need_settings [.va x0, .no] st) := rfl
@[simp] theorem fps_outside_of : pk.T.fps "outside_of" = some (["settings"] : List Str) := rfl
theorem u_outside_of (n : Nat) (x0 : D) (st : Sto) : clN pk.T pk.defs (n + 1) "outside_of" [x0] st = outR (exss pk.T (clN pk.T pk.defs n) i_outside_of [.va x0, .no, .no, .no] st) := rfl
@[simp] theorem fps_levels_of : pk.T.fps "levels_of" = some (["many", "outside"] : List Str) := rfl
theorem u_levels_of (n : Nat) (x0 x1 : D) (st : Sto) : clN pk.T pk.defs (n + 1) "levels_of" [x0, x1] st = outR (exss pk.T (clN pk.T pk.defs n) i_levels_of [.va x0, .va x1, .no, .no, .no, .no, .no, .no] st) := rfl
@[simp] theorem fps_alternation : pk.T.fps "alternation" = some (["settings"] : List Str) := rfl
theorem u_alternation (n : Nat) (x0 : D) (st : Sto) : clN pk.T pk.defs (n + 1) "alternation" [x0] st = outR (exss pk.T (clN pk.T pk.defs n) i_alternation [.va x0, .no, .no, .no, .no, .no, .no, .no, .no, .no, .no] st) := rfl
@[simp] theorem fps_hit_wires : pk.T.fps "hit_wires" = some (["settings"] : List Str) := rfl
theorem u_hit_wires (n : Nat) (x0 : D) (st : Sto) : clN pk.T pk.defs (n + 1) "hit_wires" [x0] st = outR (exss pk.T (clN pk.T pk.defs n) i_hit_wires [.va x0, .no, .no, .no, .no, .no, .no, .no, .no] st) := rfl
@[simp] theorem fps_parts_within : pk.T.fps "parts_within" = some (["rest", "parts", "most"] : List Str) := rfl
theorem u_parts_within (n : Nat) (x0 x1 x2 : D) (st : Sto) : clN pk.T pk.defs (n + 1) "parts_within" [x0, x1, x2] st = outR (exss pk.T (clN pk.T pk.defs n) i_parts_within [.va x0, .va x1, .va x2, .no, .no, .no, .no] st) := rfl
@[simp] theorem fps_fewest_parts : pk.T.fps "fewest_parts" = some (["outside"] : List Str) := rfl
theorem u_fewest_parts (n : Nat) (x0 : D) (st : Sto) : clN pk.T pk.defs (n + 1) "fewest_parts" [x0] st = outR (exss pk.T (clN pk.T pk.defs n) i_fewest_parts [.va x0, .no, .no, .no] st) := rfl
@[simp] theorem fps_meeting_parts : pk.T.fps "meeting_parts" = some (["settings"] : List Str) := rfl
theorem u_meeting_parts (n : Nat) (x0 : D) (st : Sto) : clN pk.T pk.defs (n + 1) "meeting_parts" [x0] st = outR (exss pk.T (clN pk.T pk.defs n) i_meeting_parts [.va x0, .no, .no, .no, .no] st) := rfl
@[simp] theorem fps_l_start : pk.T.fps "_law_start" = some (["_law_script", "_law_salt"] : List Str) := rfl
theorem u_l_start (n : Nat) (x0 x1 : D) (st : Sto) : clN pk.T pk.defs (n + 1) "_law_start" [x0, x1] st = outR (exss pk.T (clN pk.T pk.defs n) i_l_start [.va x0, .va x1, .no, .no, .no] st) := rfl
@[simp] theorem fps_l_pick : pk.T.fps "_law_pick" = some (["_law_deal", "_law_bound"] : List Str) := rfl
theorem u_l_pick (n : Nat) (x0 x1 : D) (st : Sto) : clN pk.T pk.defs (n + 1) "_law_pick" [x0, x1] st = outR (exss pk.T (clN pk.T pk.defs n) i_l_pick [.va x0, .va x1, .no] st) := rfl
@[simp] theorem fps_l_from : pk.T.fps "_law_from" = some (["_law_deal", "_law_some_here"] : List Str) := rfl
theorem u_l_from (n : Nat) (x0 x1 : D) (st : Sto) : clN pk.T pk.defs (n + 1) "_law_from" [x0, x1] st = outR (exss pk.T (clN pk.T pk.defs n) i_l_from [.va x0, .va x1] st) := rfl
@[simp] theorem fps_l_all : pk.T.fps "_law_all" = some (["_law_many"] : List Str) := rfl
theorem u_l_all (n : Nat) (x0 : D) (st : Sto) : clN pk.T pk.defs (n + 1) "_law_all" [x0] st = outR (exss pk.T (clN pk.T pk.defs n) i_l_all [.va x0, .no, .no, .no, .no] st) := rfl
@[simp] theorem fps_l_told : pk.T.fps "_law_told" = some (["_law_many", "_law_numbers"] : List Str) := rfl
theorem u_l_told (n : Nat) (x0 x1 : D) (st : Sto) : clN pk.T pk.defs (n + 1) "_law_told" [x0, x1] st = outR (exss pk.T (clN pk.T pk.defs n) i_l_told [.va x0, .va x1, .no, .no] st) := rfl
@[simp] theorem fps_l_levels : pk.T.fps "_law_levels" = some (["_law_size", "_law_row"] : List Str) := rfl
theorem u_l_levels (n : Nat) (x0 x1 : D) (st : Sto) : clN pk.T pk.defs (n + 1) "_law_levels" [x0, x1] st = outR (exss pk.T (clN pk.T pk.defs n) i_l_levels [.va x0, .va x1, .no, .no, .no, .no, .no] st) := rfl
@[simp] theorem fps_l_longest : pk.T.fps "_law_longest" = some (["_law_size", "_law_row"] : List Str) := rfl
theorem u_l_longest (n : Nat) (x0 x1 : D) (st : Sto) : clN pk.T pk.defs (n + 1) "_law_longest" [x0, x1] st = outR (exss pk.T (clN pk.T pk.defs n) i_l_longest [.va x0, .va x1, .no, .no] st) := rfl
@[simp] theorem fps_l_hits : pk.T.fps "_law_hits" = some (["_law_many", "_law_outside"] : List Str) := rfl
theorem u_l_hits (n : Nat) (x0 x1 : D) (st : Sto) : clN pk.T pk.defs (n + 1) "_law_hits" [x0, x1] st = outR (exss pk.T (clN pk.T pk.defs n) i_l_hits [.va x0, .va x1, .no, .no, .no, .no, .no] st) := rfl
@[simp] theorem fps_l_parts : pk.T.fps "_law_parts" = some (["_law_many", "_law_outside"] : List Str) := rfl
theorem u_l_parts (n : Nat) (x0 x1 : D) (st : Sto) : clN pk.T pk.defs (n + 1) "_law_parts" [x0, x1] st = outR (exss pk.T (clN pk.T pk.defs n) i_l_parts [.va x0, .va x1, .no, .no, .no, .no, .no, .no, .no] st) := rfl
@[simp] theorem fps_l_some : pk.T.fps "_law_some" = some (["_law_deal", "_law_many"] : List Str) := rfl
theorem u_l_some (n : Nat) (x0 x1 : D) (st : Sto) : clN pk.T pk.defs (n + 1) "_law_some" [x0, x1] st = outR (exss pk.T (clN pk.T pk.defs n) i_l_some [.va x0, .va x1, .no, .no, .no, .no, .no, .no, .no, .no] st) := rfl
@[simp] theorem fps_l_turns : pk.T.fps "_law_turns" = some (["_law_many", "_law_row", "_law_told_here"] : List Str) := rfl
theorem u_l_turns (n : Nat) (x0 x1 x2 : D) (st : Sto) : clN pk.T pk.defs (n + 1) "_law_turns" [x0, x1, x2] st = outR (exss pk.T (clN pk.T pk.defs n) i_l_turns [.va x0, .va x1, .va x2, .no, .no, .no, .no, .no, .no] st) := rfl
@[simp] theorem fps_l_parting : pk.T.fps "_law_parting" = some (["_law_many", "_law_outside", "_law_told_here"] : List Str) := rfl
theorem u_l_parting (n : Nat) (x0 x1 x2 : D) (st : Sto) : clN pk.T pk.defs (n + 1) "_law_parting" [x0, x1, x2] st = outR (exss pk.T (clN pk.T pk.defs n) i_l_parting [.va x0, .va x1, .va x2, .no, .no, .no, .no, .no, .no] st) := rfl
@[simp] theorem fps_l_no_settings : pk.T.fps "_law_no_settings" = some (["_law_deal", "_law_good"] : List Str) := rfl
theorem u_l_no_settings (n : Nat) (x0 x1 : D) (st : Sto) : clN pk.T pk.defs (n + 1) "_law_no_settings" [x0, x1] st = outR (exss pk.T (clN pk.T pk.defs n) i_l_no_settings [.va x0, .va x1, .no, .no, .no, .no, .no] st) := rfl
@[simp] theorem fps_l_heard : pk.T.fps "_law_heard" = some (["_law_call", "_law_value"] : List Str) := rfl
theorem u_l_heard (n : Nat) (x0 x1 : D) (st : Sto) : clN pk.T pk.defs (n + 1) "_law_heard" [x0, x1] st = outR (exss pk.T (clN pk.T pk.defs n) i_l_heard [.va x0, .va x1, .no] st) := rfl
@[simp] theorem fps_law : pk.T.fps "law" = some (["_law_script"] : List Str) := rfl
theorem u_law (n : Nat) (x0 : D) (st : Sto) : clN pk.T pk.defs (n + 1) "law" [x0] st = outR (exss pk.T (clN pk.T pk.defs n) i_law [.va x0, .no, .no, .no, .no, .no, .no, .no, .no, .no, .no, .no, .no, .no] st) := rfl
@[simp] theorem g_MOST_INPUTS : pk.T.g "MOST_INPUTS" = some (.int 8) := rfl
@[simp] theorem g_SIZES : pk.T.g "SIZES" = some (.ctup [(.int 1), (.int 2), (.int 4), (.int 8), (.int 16), (.int 32), (.int 64), (.int 128), (.int 256)]) := rfl
@[simp] theorem fld_InvalidLot : pk.T.fld "InvalidLot" = some (["at"] : List Str) := rfl
@[simp] theorem hn_InvalidLot : pk.T.hn "InvalidLot" = true := rfl
@[simp] theorem sub_InvalidLot_InvalidLot : pk.T.sub "InvalidLot" "InvalidLot" = true := rfl
@[simp] theorem sub_InvalidLot_InvalidSize : pk.T.sub "InvalidLot" "InvalidSize" = false := rfl
@[simp] theorem fld_InvalidSize : pk.T.fld "InvalidSize" = some (["word"] : List Str) := rfl
@[simp] theorem hn_InvalidSize : pk.T.hn "InvalidSize" = true := rfl
@[simp] theorem sub_InvalidSize_InvalidLot : pk.T.sub "InvalidSize" "InvalidLot" = false := rfl
@[simp] theorem sub_InvalidSize_InvalidSize : pk.T.sub "InvalidSize" "InvalidSize" = true := rfl
@[simp] theorem kw_0 : pk.T.kwp "alternation" 0 (["settings"] : List Str) = some [0] := rfl
@[simp] theorem kw_1 : pk.T.kwp "hit_wires" 0 (["settings"] : List Str) = some [0] := rfl
@[simp] theorem kw_2 : pk.T.kwp "meeting_parts" 0 (["settings"] : List Str) = some [0] := rfl
end T46
end
section
set_option Elab.async false
set_option linter.all false
set_option maxRecDepth 100000
set_option maxHeartbeats 2000000
namespace T46
open PySem PySem.Spec PyProof.Rows L2 Nb
abbrev C (n : Nat) : Cl := clN pk.T pk.defs n
theorem c_is_integer {n : Nat} (hn : 1 ≤ n) {d : D} (hd : plainD d = true) {st : Sto} : C n "is_integer" [d] st = .ok (.bl (intB d)) st := by
  obtain ⟨n, rfl, hm⟩ := succ_of hn
  rw [C, u_is_integer, ← wpR_eq, wpR_outR]
  cases d <;> first | (cases hd; done) | simp [i_is_integer, intB]
theorem c_is_below {n : Nat} (hn : 2 ≤ n) {d : D} (hd : plainD d = true) {b : Int} {st : Sto} : C n "is_below" [d, .int b] st = .ok (.bl (belB d b)) st := by
  obtain ⟨n, rfl, hm⟩ := succ_of hn
  rw [C, u_is_below, ← wpR_eq, wpR_outR]
  have h1 : ∀ s, C n "is_integer" [d] s = _ := fun s => c_is_integer hm hd (st := s)
  cases d <;> first | (cases hd; done) | (simp [i_is_below, h1, intB, belB]; done) | skip
  rename_i i
  simp [i_is_below, h1, intB, belB]
  by_cases h : 0 ≤ i <;> by_cases h2 : i < b <;> simp [h, h2] <;> omega
theorem c_is_bit {n : Nat} (hn : 3 ≤ n) {d : D} (hd : plainD d = true) {st : Sto} : C n "is_bit" [d] st = .ok (.bl (belB d 2)) st := by
  obtain ⟨n, rfl, hm⟩ := succ_of hn
  rw [C, u_is_bit, ← wpR_eq, wpR_outR]
  simp [i_is_bit, c_is_below hm hd]
theorem c_is_bits {n : Nat} (hn : 4 ≤ n) {d : D} (hd : pl2 d = true) {st : Sto} : C n "is_bits" [d] st = .ok (.bl (bitsB d)) st := by
  obtain ⟨n, rfl, hm⟩ := succ_of hn
  rw [C, u_is_bits, ← wpR_eq, wpR_outR]
  unfold pl2 at hd
  obtain ⟨hp, hd⟩ := b2 hd
  have tp : ∀ xs, tupD d = some xs → itemsD d = some xs → isiD d ["tuple"] = some true → wpS (exss pk.T (clN pk.T pk.defs n) i_is_bits [.va d, .no] st) ⟨fun _ s => D.non = .bl (bitsB d) ∧ s = st, fun d' s => d' = .bl (bitsB d) ∧ s = st, fun _ _ _ _ => False, fun _ _ => False, fun _ _ => False⟩ := by
    intro xs h1 h2 h3
    rw [h1] at hd
    obtain ⟨h4, h5⟩ := b2 hd
    have h5 := of_decide_eq_true h5
    simp [i_is_bits, h2, h3, few_of (show xs.length ≤ big by rw [big_eq]; omega)]
    refine wp_lcm (fun d => .bl (belB d 2)) (fun d hd => ?_) ?_
    · simp [c_is_bit hm (List.all_eq_true.mp h4 d hd)]
    · simp [all_map, bitsB, h1]
  cases d <;> first | (cases hp; done) | exact tp _ rfl rfl (by simp) | simp [i_is_bits, bitsB, tupD]
theorem c_need_between {n : Nat} (hn : 2 ≤ n) {i a b : Int} {w : D} {st : Sto} (h1 : a ≤ i) (h2 : i ≤ b) : C n "need_between" [.int i, .int a, .int b, w] st = .ok .non st := by
  obtain ⟨n, rfl, hm⟩ := succ_of hn
  rw [C, u_need_between, ← wpR_eq, wpR_outR]
  have h3 : ∀ s, C n "is_integer" [.int i] s = .ok (.bl true) s := fun s => c_is_integer hm rfl
  simp [i_need_between, h3, h1, h2]
theorem c_follows {n : Nat} (hn : 5 ≤ n) {v e : D} {xs : List D} (hv : tupD v = some xs) {i : Nat} (hx : xs[i]? = some e) (he : pl2 e = true) (h0 : i ≠ 0 → bitsB (xs.getD 0 .non) = true ∧ bitsB (xs.getD (i - 1) .non) = true) {st : Sto} :
    C n "follows" [v, .int (i : Int)] st = .ok (.bl (folB xs i)) st := by
  obtain ⟨n, rfl, hm⟩ := succ_of hn
  rw [C, u_follows, ← wpR_eq, wpR_outR]
  simp [i_follows, idx_t hv, hx, c_is_bits hm he]
  cases hb : bitsB e with
  | false => simp [folB, hx, hb]
  | true =>
    have h1 := (bits_of hb).1
    have hl : ∀ s, biD s .len [e] = some (.int (intsD e).length) := fun s => by rw [len_t h1]; simp
    simp [hl]
    by_cases hz : intsD e = []
    · simp [hz, folB, hx, hb]
    · have hz' : ¬ (intsD e).length = 0 := fun h => hz (List.length_eq_zero_iff.mp h)
      simp [hz, hz']
      by_cases hi : i = 0
      · subst hi
        simp [folB, hx, hb, hz]
      · obtain ⟨g1, g2⟩ := h0 hi
        have hlen := (List.getElem?_eq_some_iff.mp hx).1
        have k1 : xs[0]? = some (xs.getD 0 .non) := by rw [List.getD_eq_getElem?_getD, List.getElem?_eq_getElem (by omega)]; rfl
        have k2 : xs[i - 1]? = some (xs.getD (i - 1) .non) := by rw [List.getD_eq_getElem?_getD, List.getElem?_eq_getElem (by omega)]; rfl
        have i1 : ∀ s, idxD s v (.int 0) = some (xs.getD 0 .non) := fun s => by
          have := idx_t (s := s) hv (i := 0)
          rw [k1] at this; exact this
        have i2 : ∀ s, idxD s v (.int ((i : Int) - 1)) = some (xs.getD (i - 1) .non) := fun s => by
          have := idx_t (s := s) hv (i := i - 1)
          rw [k2] at this
          rw [← this]
          congr 2
          omega
        have hl0 : ∀ s, biD s .len [xs.getD 0 .non] = some (.int (intsD (xs.getD 0 .non)).length) := fun s => by rw [len_t (bits_of g1).1]; simp
        have hf : folB xs i = ((intsD e).length == (intsD (xs.getD 0 .non)).length && lexI (intsD (xs.getD (i - 1) .non)) (intsD e)) := by
          have hz2 : (intsD e).isEmpty = false := by cases q : intsD e <;> first | exact absurd q hz | rfl
          unfold folB
          simp only [hx, hb, hz2, hi, Bool.not_false, Bool.true_and, decide_false, Bool.false_or]
        rw [hf]
        clear hf k1 k2 h0
        generalize xs.getD 0 D.non = x0 at *
        generalize xs.getD (i - 1) D.non = x1 at *
        simp [hi, i1, i2, hl0, lt_bits g2 hb]
        by_cases hq : (intsD e).length = (intsD x0).length
        · have : ((intsD e).length : Int) = ((intsD x0).length : Int) := by omega
          simp [hq]
        · have : ¬ ((intsD e).length : Int) = ((intsD x0).length : Int) := by omega
          simp [hq, this]
theorem c_need_settings {n : Nat} (hn : 6 ≤ n) {v : D} (hp : pl3 v = true) {st : Sto} : C n "need_settings" [v] st = (lotA v).res st := by
  obtain ⟨n, rfl, hm⟩ := succ_of hn
  rw [C, u_need_settings]
  refine eq_res ?_
  rw [wpR_outR]
  obtain ⟨hp, hd⟩ := b2 hp
  cases ht : tupD v with
  | none => simp [i_need_settings, isi_nt hp ht, lotA, ht]
  | some xs =>
    rw [ht] at hd
    obtain ⟨h4, h5⟩ := b2 hd
    have h5 := of_decide_eq_true h5
    simp [i_need_settings, isi_t ht, len_t ht, w_for]
    by_cases hz : xs = []
    · simp [hz, lotA, ht]
    · have hr : rngD [.int (xs.length : Int)] = some (rngL 0 xs.length) :=
        rngD_nat (by omega)
      simp [hz, hr, few_of (show (rngL 0 xs.length).length ≤ big by rw [big_eq, rngL_length]; omega)]
      refine wp_fori (fun i e s => s = st ∧ (∃ a, e = [.va v, a]) ∧ ∀ k, k < i → folB xs k = true) ⟨rfl, ⟨_, rfl⟩, fun _ h => absurd h (Nat.not_lt_zero _)⟩ (fun i w e s hw hI => ?_) fun e s hI => ?_
      · obtain ⟨hi, rfl⟩ := rngL_get hw
        obtain ⟨rfl, ⟨a, rfl⟩, hk⟩ := hI
        obtain ⟨x, hx⟩ : ∃ x, xs[i]? = some x := ⟨xs[i], List.getElem?_eq_getElem hi⟩
        have hf := fun s => c_follows (n := n) (by omega) ht hx (List.all_eq_true.mp h4 x (List.mem_of_getElem? hx)) (fun h0 => ⟨fol_bits (hk 0 (by omega)), fol_bits (hk (i - 1) (by omega))⟩) (st := s)
        cases hb : folB xs i with
        | true =>
          simp [hf, hb]
          intro k h1
          rcases Nat.lt_succ_iff_lt_or_eq.mp h1 with h1 | rfl
          · exact hk k h1
          · exact hb
        | false =>
          simp [hf, hb, lotA, ht, hz]
          have : (List.range xs.length).find? (fun i => !folB xs i) = some i := by
            rw [List.find?_range_eq_some]
            exact ⟨by simp [hb], by simpa using hi, fun j hj => by simp [hk j hj]⟩
          simp [this]
      · obtain ⟨rfl, ⟨a, rfl⟩, hk⟩ := hI
        have : (List.range xs.length).find? (fun i => !folB xs i) = none := by
          rw [List.find?_eq_none]
          intro i hi
          have := hk i (by simpa using hi)
          simp [this]
        simp [lotA, ht, hz, this]
theorem c_settings_of {n : Nat} (hn : 3 ≤ n) {m : Nat} (hm : m ≤ 6) {st : Sto} : C n "settings_of" [.int (m : Int)] st = .ok (.tup (allS m)) st := by
  obtain ⟨n, rfl⟩ : ∃ k, n = k + 3 := ⟨n - 3, by omega⟩
  rcases (show m = 0 ∨ m = 1 ∨ m = 2 ∨ m = 3 ∨ m = 4 ∨ m = 5 ∨ m = 6 by omega) with rfl | rfl | rfl | rfl | rfl | rfl | rfl <;> kernel_rfl
theorem c_l_all {n : Nat} (hn : 1 ≤ n) {m : Nat} (hm : m ≤ 6) {st : Sto} : C n "_law_all" [.int (m : Int)] st = .ok (.lst (allS m)) st := by
  obtain ⟨n, rfl⟩ : ∃ k, n = k + 1 := ⟨n - 1, by omega⟩
  rcases (show m = 0 ∨ m = 1 ∨ m = 2 ∨ m = 3 ∨ m = 4 ∨ m = 5 ∨ m = 6 by omega) with rfl | rfl | rfl | rfl | rfl | rfl | rfl <;> kernel_rfl
theorem c_l_told {n : Nat} (hn : 2 ≤ n) {m : Nat} (hm : m ≤ 6) {r : List Nat} (hr : ∀ j ∈ r, j < 2 ^ m) (hl : r.length ≤ 1000) {st : Sto} : C n "_law_told" [.int (m : Int), rowD r] st = .ok (grpD m r) st := by
  obtain ⟨n, rfl, hn'⟩ := succ_of hn
  rw [C, u_l_told, ← wpR_eq, wpR_outR]
  have hln : (natD r).length ≤ big := by unfold natD; rw [List.length_map, List.length_map, big_eq]; omega
  simp [i_l_told, c_l_all hn' hm, rowD, few_of hln]
  refine wp_lcm (fun x => match x with | .int i => setT m i.toNat | _ => .non) (fun x hx => ?_) ?_
  · unfold natD at hx
    obtain ⟨i, hi, rfl⟩ := List.mem_map.mp hx
    obtain ⟨j, hj, rfl⟩ := List.mem_map.mp hi
    have : ∀ s, idxD s (.lst (allS m)) (.int (j : Int)) = some (setT m j) := fun s => by
      show atI _ _ = _
      rw [atI_cast, allS_get (hr j hj)]
    simp [this]
  · simp [natD, grpD]
theorem c_number_of {n : Nat} (hn : 1 ≤ n) {m i : Nat} (hm : m ≤ 8) (hi : i < 2 ^ m) {st : Sto} : C n "number_of" [setT m i] st = .ok (.int (i : Int)) st := by
  obtain ⟨n, rfl, hn⟩ := succ_of hn
  rw [C, u_number_of, ← wpR_eq, wpR_outR]
  have hl : (S m i).length = m := (S_facts hm hi).1
  have hfew : few ((S m i).map D.int) = some ((S m i).map D.int) := few_of (by rw [big_eq, List.length_map]; omega)
  have hnum := S_num m i 0
  rw [Nat.mod_eq_of_lt hi] at hnum
  unfold setT tupI
  generalize S m i = bs at *
  simp [i_number_of, w_for, hfew]
  refine wp_fori (fun i e s => s = st ∧ ∃ b, e = [.va (.tup (bs.map .int)), .va (.int ((bs.take i).foldl (fun a b => a * 2 + b) 0)), b]) ⟨rfl, _, rfl⟩ (fun i v e s hv hI => ?_) fun e s hI => ?_
  · obtain ⟨rfl, b, rfl⟩ := hI
    rw [List.getElem?_map] at hv
    obtain ⟨x, hx, rfl⟩ := Option.map_eq_some_iff.mp hv
    have e2 : bs.take (i + 1) = bs.take i ++ [x] := by
      obtain ⟨hi, rfl⟩ := List.getElem?_eq_some_iff.mp hx
      rw [List.take_succ_eq_append_getElem hi]
    have hmul : ∀ a : Int, binD .mul (.int a) (.int 2) = some (.int (a * 2)) := fun a => mul_small (by decide) (by decide)
    simp [hmul, e2, List.foldl_append]
  · obtain ⟨rfl, b, rfl⟩ := hI
    simp [hnum]
end T46
end
section
set_option linter.all false
/-! M46a: alternations over subsets (plain Lean) -/
namespace M46
/-- low lies strictly under n -/
def Und (low n : Nat) : Prop := low < n ∧ low &&& n = low
def cst (o : Nat → Bool) (n low : Nat) : Nat := if o n = true ∧ o low = false then 1 else 0
def out1 (o : Nat → Bool) (n : Nat) : Nat := if o n = true then 1 else 0
/-- levels by all subsets -/
structure LvA (o : Nat → Bool) (N : Nat) (L : Nat → Nat) : Prop where
  base : ∀ n, n < N → out1 o n ≤ L n
  up : ∀ n low, n < N → Und low n → L low + cst o n low ≤ L n
  att : ∀ n, n < N → L n = out1 o n ∨ ∃ low, Und low n ∧ L n = L low + cst o n low
/-- levels by subsets with one fewer -/
structure LvI (o : Nat → Bool) (m : Nat) (L : Nat → Nat) : Prop where
  base : ∀ n, n < 2 ^ m → out1 o n ≤ L n
  up : ∀ n b, n < 2 ^ m → b < m → n.testBit b = true → L (n ^^^ 2 ^ b) + cst o n (n ^^^ 2 ^ b) ≤ L n
  att : ∀ n, n < 2 ^ m → L n = out1 o n ∨ ∃ b, b < m ∧ n.testBit b = true ∧ L n = L (n ^^^ 2 ^ b) + cst o n (n ^^^ 2 ^ b)
theorem und_bits {low n : Nat} (h : low &&& n = low) {b : Nat} (hb : low.testBit b = true) : n.testBit b = true := by
  have := congrArg (fun x => x.testBit b) h
  simp [Nat.testBit_and, hb] at this
  exact this
theorem tb_flip {n b j : Nat} : (n ^^^ 2 ^ b).testBit j = (if j = b then !n.testBit b else n.testBit j) := by
  rw [Nat.testBit_xor, Nat.testBit_two_pow]
  by_cases h : j = b
  · subst h; simp
  · have : ¬ b = j := fun e => h e.symm
    simp [h, this]
theorem and_of_bits {low n : Nat} (h : ∀ b, low.testBit b = true → n.testBit b = true) : low &&& n = low := by
  apply Nat.eq_of_testBit_eq
  intro i
  rw [Nat.testBit_and]
  cases hb : low.testBit i
  · simp
  · simp [h i hb]
theorem le_of_und {low n : Nat} (h : low &&& n = low) : low ≤ n := by rw [← h]; exact Nat.and_le_right
theorem flip_und {n b : Nat} (h : n.testBit b = true) : Und (n ^^^ 2 ^ b) n := by
  have h1 : (n ^^^ 2 ^ b) &&& n = n ^^^ 2 ^ b := and_of_bits fun j hj => by
    rw [tb_flip] at hj
    split at hj
    · rename_i e; subst e; exact h
    · exact hj
  refine ⟨Nat.lt_of_le_of_ne (le_of_und h1) fun e => ?_, h1⟩
  have := congrArg (fun x => x.testBit b) e
  rw [tb_flip] at this
  simp [h] at this
/-- a bit that is missing below -/
theorem gap {low n : Nat} (h : Und low n) : ∃ b, n.testBit b = true ∧ low.testBit b = false := by
  refine Classical.byContradiction fun hc => ?_
  have : n = low := Nat.eq_of_testBit_eq fun i => by
    cases h1 : n.testBit i
    · cases h2 : low.testBit i
      · rfl
      · have := und_bits h.2 h2; rw [h1] at this; cases this
    · cases h2 : low.testBit i
      · exact absurd ⟨i, h1, h2⟩ hc
      · rfl
  exact absurd h.1 (by omega)
theorem tb_lt {n m b : Nat} (hn : n < 2 ^ m) (h : n.testBit b = true) : b < m := by
  refine Classical.byContradiction fun hc => ?_
  have : n < 2 ^ b := Nat.lt_of_lt_of_le hn (Nat.pow_le_pow_right (by decide) (by omega))
  rw [Nat.testBit_lt_two_pow this] at h
  cases h
theorem cst_le (o : Nat → Bool) (n n1 low : Nat) : cst o n low ≤ cst o n n1 + cst o n1 low := by
  unfold cst
  cases o n <;> cases o n1 <;> cases o low <;> simp
section
variable {o : Nat → Bool} {m N : Nat} {L L' : Nat → Nat}
theorem LvI.all (h : LvI o m L) : ∀ n low, n < 2 ^ m → Und low n → L low + cst o n low ≤ L n := by
  intro n
  induction n using Nat.strongRecOn with
  | ind n ih =>
    intro low hn hu
    obtain ⟨b, h1, h2⟩ := gap hu
    have hb := tb_lt hn h1
    have hf := flip_und h1
    have hup := h.up n b hn hb h1
    by_cases e : n ^^^ 2 ^ b = low
    · rw [e] at hup; exact hup
    · have hl : low &&& (n ^^^ 2 ^ b) = low := and_of_bits fun j hj => by
        rw [tb_flip]
        split
        · rename_i e2; subst e2; rw [h2] at hj; cases hj
        · exact und_bits hu.2 hj
      have := ih _ hf.1 low (Nat.lt_trans hf.1 hn) ⟨Nat.lt_of_le_of_ne (le_of_und hl) (fun q => e q.symm), hl⟩
      have c := cst_le o n (n ^^^ 2 ^ b) low
      omega
theorem LvI.eq (h : LvI o m L) (h' : LvA o (2 ^ m) L') : ∀ n, n < 2 ^ m → L n = L' n := by
  intro n
  induction n using Nat.strongRecOn with
  | ind n ih =>
    intro hn
    apply Nat.le_antisymm
    · rcases h.att n hn with e | ⟨b, hb, ht, e⟩
      · rw [e]; exact h'.base n hn
      · have hf := flip_und ht
        rw [e, ih _ hf.1 (Nat.lt_trans hf.1 hn)]
        exact h'.up n _ hn hf
    · rcases h'.att n hn with e | ⟨low, hu, e⟩
      · rw [e]; exact h.base n hn
      · rw [e, ← ih _ hu.1 (Nat.lt_trans hu.1 hn)]
        exact h.all n low hn hu
theorem und_trans {a b c : Nat} (h : Und a b) (k : Und b c) : Und a c := ⟨Nat.lt_trans h.1 k.1, and_of_bits fun j hj => und_bits k.2 (und_bits h.2 hj)⟩
/-- below what is outside with a level k + 2 lies something inside with level k + 1 -/
theorem LvA.down_in (h : LvA o N L) : ∀ n, n < N → o n = true → ∀ k, 1 ≤ k → L n = k + 1 → ∃ low, Und low n ∧ o low = false ∧ L low = k := by
  intro n
  induction n using Nat.strongRecOn with
  | ind n ih =>
    intro hn ho k hk hL
    rcases h.att n hn with e | ⟨low, hu, e⟩
    · unfold out1 at e; rw [ho, if_pos rfl] at e; omega
    · cases hl : o low
      · refine ⟨low, hu, hl, ?_⟩
        unfold cst at e
        rw [if_pos ⟨ho, hl⟩] at e
        omega
      · unfold cst at e
        rw [if_neg (by rw [hl]; simp)] at e
        obtain ⟨low', h1, h2, h3⟩ := ih low hu.1 (Nat.lt_trans hu.1 hn) hl k hk (by omega)
        exact ⟨low', und_trans h1 hu, h2, h3⟩
theorem LvA.down_out (h : LvA o N L) : ∀ n, n < N → o n = false → ∀ k, 1 ≤ k → L n = k → ∃ low, Und low n ∧ o low = true ∧ L low = k := by
  intro n
  induction n using Nat.strongRecOn with
  | ind n ih =>
    intro hn ho k hk hL
    rcases h.att n hn with e | ⟨low, hu, e⟩
    · unfold out1 at e; rw [ho, if_neg (by simp)] at e; omega
    · have e : L n = L low := by
        unfold cst at e
        rw [if_neg (by rw [ho]; simp)] at e
        omega
      cases hl : o low
      · obtain ⟨low', h1, h2, h3⟩ := ih low hu.1 (Nat.lt_trans hu.1 hn) hl k hk (by omega)
        exact ⟨low', und_trans h1 hu, h2, h3⟩
      · exact ⟨low, hu, hl, by omega⟩
end
end M46
end
section
set_option Elab.async false
set_option linter.all false
set_option maxRecDepth 100000
set_option maxHeartbeats 4000000
namespace T46
open PySem PySem.Spec PyProof.Rows L2 Nb M46
variable {n : Nat} {st : Sto}
/-- what is outside -/
def outs (m : Nat) (r : List Nat) : List Nat := (List.range (2 ^ m)).filter fun i => !decide (i ∈ r)
theorem outs_mem {m : Nat} {r : List Nat} {i : Nat} : i ∈ outs m r ↔ i < 2 ^ m ∧ i ∉ r := by
  unfold outs; rw [List.mem_filter, List.mem_range]; simp
theorem outs_asc {m : Nat} {r : List Nat} : (outs m r).Pairwise (· < ·) := List.pairwise_lt_range.filter _
theorem outs_len {m : Nat} {r : List Nat} : (outs m r).length ≤ 2 ^ m := by
  unfold outs
  exact Nat.le_trans (List.length_filter_le _ _) (by rw [List.length_range]; exact Nat.le_refl _)
theorem pow_le {m : Nat} (h : m ≤ 8) : 2 ^ m ≤ 256 := Nat.pow_le_pow_right (n := 2) (by decide) h
theorem grp_first {s : Sto} {m : Nat} {r : List Nat} (h : r ≠ []) : ∃ i, i ∈ r ∧ idxD s (grpD m r) (.int 0) = some (setT m i) := by
  cases r with
  | nil => exact absurd rfl h
  | cons x r => exact ⟨x, List.mem_cons_self, atI_cast (i := 0)⟩
theorem len_setT {s : Sto} {m i : Nat} : biD s .len [setT m i] = some (.int (m : Int)) := by
  unfold setT tupI
  rw [ln_tup, List.length_map]
  unfold S
  rw [List.length_map, List.length_range]
/-- a dict of numbers -/
theorem dk_nums {f : D → Sto → Res (Key × D)} {ι : Type} {h : ι → D} {kf : ι → Nat} {v : D} {s : Sto} : ∀ (r : List ι), (∀ i ∈ r, f (h i) s = .ok (.inl (kf i : Int), v) s) → ∀ ks vs, ∃ ks' vs', dcLoop f (r.map h) ks vs s = .ok (ks', vs') s ∧
    ∀ q, ks'.any (fun x => decide (x = q)) = (ks.any (fun x => decide (x = q)) || r.any fun i => decide ((Sum.inl (kf i : Int) : Key) = q))
  | [], _, ks, vs => ⟨ks, vs, rfl, fun q => by simp⟩
  | i :: r, H, ks, vs => by
    obtain ⟨ks', vs', e, p⟩ := dk_nums (f := f) (h := h) (kf := kf) (v := v) r (fun j hj => H j (List.mem_cons_of_mem _ hj)) (putKs ks (.inl (kf i : Int))) (putVs ks vs (.inl (kf i : Int)) v)
    refine ⟨ks', vs', ?_, fun q => ?_⟩
    · rw [List.map_cons]
      unfold dcLoop
      rw [H i List.mem_cons_self]
      exact e
    · rw [p q, putKs_any, List.any_cons, Bool.or_assoc]
theorem any_map_nat {ι : Type} {kf : ι → Nat} {r : List ι} {i : Nat} : (r.any fun x => decide ((Sum.inl (kf x : Int) : Key) = .inl (i : Int))) = decide (i ∈ r.map kf) := by
  rw [← any_nat, List.any_map]
  rfl
theorem c_outside_of (hn : 2 ≤ n) {m : Nat} (h1 : 1 ≤ m) (hm : m ≤ 8) {r : List Nat} (hr : Row m r) : C n "outside_of" [grpD m r] st = .ok (rowD (outs m r)) st := by
  obtain ⟨n, rfl, hn⟩ := succ_of hn
  rw [C, u_outside_of, ← wpR_eq, wpR_outR]
  have hl : r.length ≤ 256 := Nat.le_trans hr.len (pow_le hm)
  have hit : (itemsD (grpD m r)).bind few = some (r.map (setT m)) := by
    show few (r.map (setT m)) = _
    exact few_of (by rw [List.length_map, big_eq]; omega)
  obtain ⟨ks, vs, hd, hks⟩ := dk_nums (f := turnD keyD [2] (.nm 2) (sem pk.T (C n) (.cal "number_of" (.cons (.var 2) .nil) [])).v (sem pk.T (C n) (.kon (.bl true))).v [.va (grpD m r), .no, .no, .no]) (h := setT m) (kf := id) (v := .bl true) (s := st) r (fun i hi => by
    rw [← wpR_eq]
    unfold turnD
    simp
    rw [c_number_of (by omega) hm (hr.lt i hi)]
    simp [keyD]) [] []
  have hks2 : ∀ i : Nat, (ks.any fun x => decide (x = .inl (i : Int))) = decide (i ∈ r) := fun i => by
    have e := hks (.inl (i : Int))
    rw [any_map_nat (kf := id)] at e
    rw [e]
    simp
  obtain ⟨i0, _, hg0⟩ := grp_first (s := st) (m := m) hr.ne
  simp [i_outside_of, hit]
  simp only [C] at hd
  rw [hd]
  simp [hg0, len_setT, sizes_at hm, rng_nat (show two m ≤ 1000000 by have := two_le hm; omega)]
  refine wp_lcNf (fun i => !decide (i ∈ r)) (fun i hi => ?_) ⟨rfl, rfl⟩
  simp [nin_dk, hks2]
  by_cases h : i ∈ r <;> simp [h]

/-! levels by hand -/
def lvF (o : Nat → Bool) (ls : List Nat) (n : Nat) (bs : List Nat) : Nat := bs.foldl (fun l b => if n.testBit b = true then max l (ls.getD (n ^^^ 2 ^ b) 0 + cst o n (n ^^^ 2 ^ b)) else l) (out1 o n)
def levs (o : Nat → Bool) (m : Nat) : Nat → List Nat
  | 0 => []
  | i + 1 => levs o m i ++ [lvF o (levs o m i) i (List.range m)]
theorem levs_len {o : Nat → Bool} {m : Nat} : ∀ i, (levs o m i).length = i
  | 0 => rfl
  | i + 1 => by unfold levs; rw [List.length_append, levs_len i]; rfl
def lvP (o : Nat → Bool) (m n : Nat) : Nat := lvF o (levs o m n) n (List.range m)
theorem levs_map {o : Nat → Bool} {m : Nat} : ∀ i, levs o m i = (List.range i).map (lvP o m)
  | 0 => rfl
  | i + 1 => by
    rw [List.range_succ, List.map_append, ← levs_map i]
    rfl
theorem levs_get {o : Nat → Bool} {m i j : Nat} (h : j < i) : (levs o m i).getD j 0 = lvP o m j := by
  rw [levs_map, List.getD_eq_getElem?_getD, List.getElem?_map, List.getElem?_range h]; rfl
theorem fold_max {c : Nat → Bool} {v : Nat → Nat} : ∀ (bs : List Nat) (a : Nat), a ≤ bs.foldl (fun l b => if c b = true then max l (v b) else l) a ∧ (∀ b ∈ bs, c b = true → v b ≤ bs.foldl (fun l b => if c b = true then max l (v b) else l) a) ∧
    (bs.foldl (fun l b => if c b = true then max l (v b) else l) a = a ∨ ∃ b ∈ bs, c b = true ∧ bs.foldl (fun l b => if c b = true then max l (v b) else l) a = v b)
  | [], a => ⟨Nat.le_refl _, fun _ h => absurd h (by simp), .inl rfl⟩
  | b :: bs, a => by
    rw [List.foldl_cons]
    obtain ⟨h1, h2, h3⟩ := fold_max (c := c) (v := v) bs (if c b = true then max a (v b) else a)
    refine ⟨?_, fun b' hb' hc => ?_, ?_⟩
    · refine Nat.le_trans ?_ h1
      split
      · exact Nat.le_max_left _ _
      · exact Nat.le_refl _
    · rcases List.mem_cons.mp hb' with e | hb'
      · subst e
        refine Nat.le_trans ?_ h1
        rw [if_pos hc]
        exact Nat.le_max_right _ _
      · exact h2 b' hb' hc
    · rcases h3 with h3 | ⟨b', hb', hc, h3⟩
      · by_cases hc : c b = true
        · rw [if_pos hc] at h3 ⊢
          rcases Nat.le_total a (v b) with q | q
          · rw [Nat.max_eq_right q] at h3 ⊢
            exact .inr ⟨b, List.mem_cons_self, hc, h3⟩
          · rw [Nat.max_eq_left q] at h3 ⊢
            exact .inl h3
        · rw [if_neg hc] at h3 ⊢
          exact .inl h3
      · exact .inr ⟨b', List.mem_cons_of_mem _ hb', hc, h3⟩
theorem lvP_ok {o : Nat → Bool} {m : Nat} : LvI o m (lvP o m) where
  base := fun n _ => (fold_max (List.range m) (out1 o n)).1
  up := fun n b hn hb ht => by
    have := (fold_max (c := fun b => n.testBit b) (v := fun b => (levs o m n).getD (n ^^^ 2 ^ b) 0 + cst o n (n ^^^ 2 ^ b)) (List.range m) (out1 o n)).2.1 b (List.mem_range.mpr hb) ht
    rw [levs_get (flip_und ht).1] at this
    exact this
  att := fun n hn => by
    rcases (fold_max (c := fun b => n.testBit b) (v := fun b => (levs o m n).getD (n ^^^ 2 ^ b) 0 + cst o n (n ^^^ 2 ^ b)) (List.range m) (out1 o n)).2.2 with h | ⟨b, hb, ht, h⟩
    · exact .inl h
    · refine .inr ⟨b, List.mem_range.mp hb, ht, ?_⟩
      rw [levs_get (flip_und ht).1] at h
      exact h
/-! the program's levels -/
theorem and_two {x b : Nat} : x &&& two b = 0 ↔ x.testBit b = false := by
  constructor
  · intro h
    have := congrArg (fun z => z.testBit b) h
    simp [two_eq, Nat.testBit_and, Nat.testBit_two_pow] at this
    exact this
  · intro h
    apply Nat.eq_of_testBit_eq
    intro i
    rw [Nat.testBit_and, two_eq, Nat.testBit_two_pow, Nat.zero_testBit]
    by_cases e : b = i
    · subst e; simp [h]
    · simp [e]
theorem max2_nat {s : Sto} {a b : Nat} : biD s .max2 [.int (a : Int), .int (b : Int)] = some (.int ((max a b : Nat) : Int)) := by
  show some (D.int (if (b : Int) > (a : Int) then (b : Int) else (a : Int))) = _
  congr 2
  by_cases h : a < b
  · rw [if_pos (by omega), Nat.max_eq_right (by omega)]
  · rw [if_neg (by omega), Nat.max_eq_left (by omega)]
theorem lst_at {s : Sto} {ls : List Nat} {j : Nat} (h : j < ls.length) : idxD s (.lst (natD ls)) (.int (j : Int)) = some (.int ((ls.getD j 0 : Nat) : Int)) := by
  rw [idx_natD, List.getElem?_eq_getElem h, List.getD_eq_getElem?_getD, List.getElem?_eq_getElem h]; rfl
theorem slc_sizes {m : Nat} (h : m ≤ 8) : slcD (.ctup [(.int 1), (.int 2), (.int 4), (.int 8), (.int 16), (.int 32), (.int 64), (.int 128), (.int 256)]) none (some (m : Int)) = some (.ctup (natD ((List.range m).map two))) := by
  rcases (show m = 0 ∨ m = 1 ∨ m = 2 ∨ m = 3 ∨ m = 4 ∨ m = 5 ∨ m = 6 ∨ m = 7 ∨ m = 8 by omega) with rfl | rfl | rfl | rfl | rfl | rfl | rfl | rfl | rfl <;> rfl
def oB (out : List Nat) (x : Nat) : Bool := decide (x ∈ out)
theorem c_levels_of (hn : 1 ≤ n) {m : Nat} (hm : m ≤ 8) {out : List Nat} (ho : out.length ≤ 256) : C n "levels_of" [.int (m : Int), rowD out] st = .ok (rowD (levs (oB out) m (two m))) st := by
  obtain ⟨n, rfl, hn⟩ := succ_of hn
  rw [C, u_levels_of, ← wpR_eq, wpR_outR]
  have hit : (itemsD (rowD out)).bind few = some (natD out) := by
    show few (natD out) = _
    exact few_nat (by omega)
  obtain ⟨ks, vs, hd, hks⟩ := dk_nums (f := turnD keyD [3] (.nm 3) (sem pk.T (C n) (.var 3)).v (sem pk.T (C n) (.kon (.bl true))).v [.va (.int (m : Int)), .va (rowD out), .no, .no, .no, .no, .no, .no]) (h := fun i : Nat => .int (i : Int)) (kf := id) (v := .bl true) (s := st) out (fun i hi => by
    rw [← wpR_eq]
    unfold turnD
    simp [keyD]) [] []
  have hks2 : ∀ i : Nat, (ks.any fun x => decide (x = .inl (i : Int))) = oB out i := fun i => by
    have e := hks (.inl (i : Int))
    rw [any_map_nat (kf := id)] at e
    rw [e]
    simp [oB]
  rw [← natD_map] at hd
  simp only [C] at hd
  have hp := two_le hm
  simp [i_levels_of, hit]
  rw [hd]
  simp [isOwn, w_for, sizes_at hm, rng_nat (show two m ≤ 1000000 by omega)]
  refine wp_forR (fun i e s => s = st ∧ ∃ a b c d, e = [.va (.int (m : Int)), .va (rowD out), .va (.dk ks vs), a, .ow (.lst (natD (levs (oB out) m i))), b, c, d]) ⟨rfl, _, _, _, _, rfl⟩ (fun i e s hi hI => ?_) fun e s hI => ?_
  · obtain ⟨rfl, a, b, c, d, rfl⟩ := hI
    have hlen := levs_len (o := oB out) (m := m) i
    obtain ⟨ls, hls⟩ : ∃ ls, ls = levs (oB out) m i := ⟨_, rfl⟩
    rw [← hls] at hlen ⊢
    have hb1 : ∀ s, cmpD s .inn (.int (i : Int)) (.dk ks vs) = some (oB out i) := fun s => by rw [in_dk, hks2]
    simp [hb1]
    have key : wpS (forN (.nm 6) (fun e s => exss pk.T (clN pk.T pk.defs n) (.cons (.iff (.cmp .ne (.bin .band (.var 3) (.var 6)) (.kon (.int 0))) (.cons (.asg (.nm 7) (.bin .bxor (.var 3) (.var 6))) (.cons (.asg (.nm 5) (.bi .max2 (.cons (.var 5) (.cons (.bin .add (.idx (.peek 4) (.var 7)) (.ite (.bop true (.cmp .inn (.var 3) (.var 2)) (.cmp .nin (.var 7) (.var 2))) (.kon (.int 1)) (.kon (.int 0)))) .nil)))) .nil)) .nil) .nil) e s) (natD ((List.range m).map two))
        [.va (.int (m : Int)), .va (rowD out), .va (.dk ks vs), .va (.int (i : Int)), .ow (.lst (natD ls)), .va (.int ((out1 (oB out) i : Nat) : Int)), c, d] s) ⟨fun e s' => s' = s ∧ ∃ c d, e = [.va (.int (m : Int)), .va (rowD out), .va (.dk ks vs), .va (.int (i : Int)), .ow (.lst (natD ls)), .va (.int ((lvF (oB out) ls i (List.range m) : Nat) : Int)), c, d], fun _ _ => False, fun _ _ _ _ => False, fun _ _ => False, fun _ _ => False⟩ := by
      refine wp_forN (fun k e s' => s' = s ∧ ∃ c d, e = [.va (.int (m : Int)), .va (rowD out), .va (.dk ks vs), .va (.int (i : Int)), .ow (.lst (natD ls)), .va (.int ((lvF (oB out) ls i ((List.range m).take k) : Nat) : Int)), c, d]) ⟨rfl, c, d, rfl⟩ (fun k x e s' hx hI => ?_) fun e s' hI => ?_
      · obtain ⟨rfl, c, d, rfl⟩ := hI
        rw [List.getElem?_map] at hx
        obtain ⟨k', hk', rfl⟩ := Option.map_eq_some_iff.mp hx
        obtain ⟨hk1, hk2⟩ := List.getElem?_eq_some_iff.mp hk'
        rw [List.getElem_range] at hk2
        subst hk2
        have hk1 : k < m := by simpa using hk1
        have e2 : (List.range m).take (k + 1) = (List.range m).take k ++ [k] := by
          rw [List.take_succ_eq_append_getElem (by simpa using hk1), List.getElem_range]
        have hstep : lvF (oB out) ls i ((List.range m).take (k + 1)) = if i.testBit k = true then max (lvF (oB out) ls i ((List.range m).take k)) (ls.getD (i ^^^ 2 ^ k) 0 + cst (oB out) i (i ^^^ 2 ^ k)) else lvF (oB out) ls i ((List.range m).take k) := by
          unfold lvF
          rw [e2, List.foldl_append]
          rfl
        rw [hstep]
        obtain ⟨lv, hlv⟩ : ∃ lv, lv = lvF (oB out) ls i ((List.range m).take k) := ⟨_, rfl⟩
        rw [← hlv]
        obtain ⟨w, hw⟩ : ∃ w, w = i &&& two k := ⟨_, rfl⟩
        have hw0 : w = 0 ↔ i.testBit k = false := by rw [hw]; exact and_two
        have hband : binD .band (.int (i : Int)) (.int (two k : Int)) = some (.int (w : Int)) := by rw [hw]; exact band_nat
        cases ht : i.testBit k with
        | false =>
          have : w = 0 := hw0.mpr ht
          simp [hband, this]
        | true =>
          have hwn : ¬ w = 0 := fun e => by rw [hw0.mp e] at ht; cases ht
          have hlt : i ^^^ two k < ls.length := by rw [hlen]; exact (flip_und ht).1
          obtain ⟨low, hlow⟩ : ∃ low, low = i ^^^ two k := ⟨_, rfl⟩
          have hlow2 : low = i ^^^ 2 ^ k := hlow
          have hb2 : ∀ s, cmpD s .nin (.int (low : Int)) (.dk ks vs) = some (!oB out low) := fun s => by rw [nin_dk, hks2]
          have hx1 : binD .bxor (.int (i : Int)) (.int (two k : Int)) = some (.int (low : Int)) := by rw [hlow]; exact bxor_nat
          rw [← hlow] at hlt
          rw [← hlow2]
          have hat := fun s => lst_at (s := s) hlt
          obtain ⟨v, hv⟩ : ∃ v, v = ls.getD low 0 := ⟨_, rfl⟩
          rw [← hv] at hat ⊢
          rw [if_pos rfl]
          simp [hband, hwn, hx1, hat, hb1, hb2]
          have hc : cst (oB out) i low = if (oB out i = true ∧ oB out low = false) then 1 else 0 := rfl
          rw [hc]
          have hmx : ∀ q : Nat, biD s' .max2 [.int (lv : Int), .int ((v : Int) + (q : Int))] = some (.int ((max lv (v + q) : Nat) : Int)) := fun q => by
            have := max2_nat (s := s') (a := lv) (b := v + q)
            simpa using this
          have hm0 := hmx 0
          have hm1 := hmx 1
          simp at hm0 hm1
          cases h1 : oB out i <;> cases h2 : oB out low <;> simp [hm0, hm1]
      · obtain ⟨rfl, c, d, rfl⟩ := hI
        rw [List.length_map, List.take_length]
        exact ⟨rfl, c, d, rfl⟩
    have hnext : levs (oB out) m (i + 1) = ls ++ [lvF (oB out) ls i (List.range m)] := by rw [hls]; rfl
    cases hob : oB out i with
    | false =>
      have hz : out1 (oB out) i = 0 := by unfold out1; rw [hob]; rfl
      rw [hz] at key
      simp [w_for, slc_sizes hm, few_nat (r := (List.range m).map two) (by simp; omega)]
      refine wpS.nxt key fun e s' hN => ?_
      obtain ⟨rfl, c, d, rfl⟩ := hN
      simp [hnext, natD, hlen, big_eq]
      omega
    | true =>
      have hz : out1 (oB out) i = 1 := by unfold out1; rw [hob]; rfl
      rw [hz] at key
      simp [w_for, slc_sizes hm, few_nat (r := (List.range m).map two) (by simp; omega)]
      refine wpS.nxt key fun e s' hN => ?_
      obtain ⟨rfl, c, d, rfl⟩ := hN
      simp [hnext, natD, hlen, big_eq]
      omega
  · obtain ⟨rfl, a, b, c, d, rfl⟩ := hI
    simp [rowD]
end T46
end
section
set_option Elab.async false
set_option linter.all false
set_option maxRecDepth 100000
set_option maxHeartbeats 4000000
namespace T46
open PySem PySem.Spec PyProof.Rows L2 Nb M46
variable {n : Nat} {st : Sto}
def maxN (xs : List Nat) : Nat := xs.foldr max 0
theorem maxN_ge {xs : List Nat} {x : Nat} (h : x ∈ xs) : x ≤ maxN xs := by
  induction xs with
  | nil => cases h
  | cons y ys ih =>
    unfold maxN at *
    rw [List.foldr_cons]
    rcases List.mem_cons.mp h with rfl | h
    · exact Nat.le_max_left _ _
    · exact Nat.le_trans (ih h) (Nat.le_max_right _ _)
theorem maxN_mem {xs : List Nat} (h : xs ≠ []) : maxN xs ∈ xs := by
  induction xs with
  | nil => exact absurd rfl h
  | cons y ys ih =>
    unfold maxN at *
    rw [List.foldr_cons]
    by_cases he : ys = []
    · subst he; simp
    · rcases Nat.le_total y (ys.foldr max 0) with q | q
      · rw [Nat.max_eq_right q]; exact List.mem_cons_of_mem _ (ih he)
      · rw [Nat.max_eq_left q]; exact List.mem_cons_self
theorem maxI_nat : ∀ {xs : List Nat}, xs ≠ [] → maxI (xs.map fun x : Nat => (x : Int)) = ((maxN xs : Nat) : Int)
  | [a], _ => by simp [maxI, maxN]
  | a :: b :: l, _ => by
    have ih := maxI_nat (xs := b :: l) (by simp)
    rw [List.map_cons]
    show max (a : Int) (maxI ((b :: l).map fun x : Nat => (x : Int))) = _
    rw [ih]
    show _ = ((max a (maxN (b :: l)) : Nat) : Int)
    omega
theorem max1_nat {s : Sto} {xs : List Nat} (h : xs ≠ []) : biD s .max1 [.lst (natD xs)] = some (.int ((maxN xs : Nat) : Int)) := by
  show (match asInts (natD xs) with
    | some ns => if ns.isEmpty = true then none else some (D.int (maxI ns))
    | none => maxD1 (natD xs)) = _
  unfold natD
  rw [asI_map]
  show (if (xs.map fun x : Nat => (x : Int)).isEmpty = true then none else some (D.int (maxI (xs.map fun x : Nat => (x : Int))))) = _
  rw [if_neg (by simpa using h), maxI_nat h]
theorem add_nats {xs ys : List Nat} (h : xs.length + ys.length ≤ 1000) : binD .add (.lst (natD xs)) (.lst (natD ys)) = some (.lst (natD (xs ++ ys))) := by
  show (if (natD xs).length + (natD ys).length ≤ big then some (D.lst (natD xs ++ natD ys)) else none) = _
  rw [if_pos (by rw [natD_len, natD_len, big_eq]; omega)]
  unfold natD
  simp
theorem natD_snoc {xs : List Nat} {x : Nat} : natD xs ++ [D.int (x : Int)] = natD (xs ++ [x]) := by unfold natD; simp
/-! the law's levels -/
def lawF (o : Nat → Bool) (ls : List Nat) (n : Nat) : Nat := maxN (((List.range n).filter fun low => decide (low &&& n = low)).map (fun low => ls.getD low 0 + cst o n low) ++ [out1 o n])
def lawL (o : Nat → Bool) : Nat → List Nat
  | 0 => []
  | i + 1 => lawL o i ++ [lawF o (lawL o i) i]
theorem lawL_len {o : Nat → Bool} : ∀ i, (lawL o i).length = i
  | 0 => rfl
  | i + 1 => by unfold lawL; rw [List.length_append, lawL_len i]; rfl
def lawP (o : Nat → Bool) (n : Nat) : Nat := lawF o (lawL o n) n
theorem lawL_map {o : Nat → Bool} : ∀ i, lawL o i = (List.range i).map (lawP o)
  | 0 => rfl
  | i + 1 => by
    rw [List.range_succ, List.map_append, ← lawL_map i]
    rfl
theorem lawL_get {o : Nat → Bool} {i j : Nat} (h : j < i) : (lawL o i).getD j 0 = lawP o j := by
  rw [lawL_map, List.getD_eq_getElem?_getD, List.getElem?_map, List.getElem?_range h]; rfl
theorem lawP_ok {o : Nat → Bool} {N : Nat} : LvA o N (lawP o) where
  base := fun n _ => maxN_ge (List.mem_append_right _ (List.mem_singleton.mpr rfl))
  up := fun n low _ hu => by
    refine maxN_ge (List.mem_append_left _ (List.mem_map.mpr ⟨low, List.mem_filter.mpr ⟨List.mem_range.mpr hu.1, decide_eq_true hu.2⟩, ?_⟩))
    rw [lawL_get hu.1]
  att := fun n _ => by
    have := maxN_mem (xs := ((List.range n).filter fun low => decide (low &&& n = low)).map (fun low => (lawL o n).getD low 0 + cst o n low) ++ [out1 o n]) (by simp)
    rcases List.mem_append.mp this with h | h
    · obtain ⟨low, hl, e⟩ := List.mem_map.mp h
      obtain ⟨h1, h2⟩ := List.mem_filter.mp hl
      have h1 := List.mem_range.mp h1
      rw [lawL_get h1] at e
      exact .inr ⟨low, ⟨h1, of_decide_eq_true h2⟩, e.symm⟩
    · exact .inl (List.mem_singleton.mp h)
theorem c_l_levels (hn : 1 ≤ n) {N : Nat} (hN : N ≤ 256) {o : Nat → Bool} {r : List Nat} (ho : ∀ x, x < N → decide (x ∈ r) = !o x) : C n "_law_levels" [.int (N : Int), rowD r] st = .ok (rowD (lawL o N)) st := by
  obtain ⟨n, rfl, hn⟩ := succ_of hn
  rw [C, u_l_levels, ← wpR_eq, wpR_outR]
  simp [i_l_levels, isOwn, w_for, rng_nat (show N ≤ 1000000 by omega)]
  refine wp_forR (fun i e s => s = st ∧ ∃ a b c d, e = [.va (.int (N : Int)), .va (rowD r), .ow (.lst (natD (lawL o i))), a, b, c, d]) ⟨rfl, _, _, _, _, rfl⟩ (fun i e s hi hI => ?_) fun e s hI => ?_
  · obtain ⟨rfl, a, b, c, d, rfl⟩ := hI
    have hlen := lawL_len (o := o) i
    obtain ⟨ls, hls⟩ : ∃ ls, ls = lawL o i := ⟨_, rfl⟩
    have hnext : lawL o (i + 1) = ls ++ [lawF o ls i] := by rw [hls]; rfl
    rw [← hls] at hlen ⊢
    have hin : ∀ s x, x < N → cmpD s .inn (.int (x : Int)) (rowD r) = some (!o x) := fun s x hx => by
      rw [← ho x hx]; exact in_row (s := s)
    have hiv : ∀ s, cmpD s .inn (.int (i : Int)) (rowD r) = some (!o i) := fun s => hin s i hi
    have hout : ∀ k : Bool, o i = k → ((out1 o i : Nat) : Int) = (if k = true then 1 else 0) := fun k e => by unfold out1; rw [e]; cases k <;> rfl
    obtain ⟨ou, hou⟩ : ∃ ou, ou = out1 o i := ⟨_, rfl⟩
    have hstep : ∀ f : Enw → Sto → Prop, wpR (sem pk.T (clN pk.T pk.defs n) (.lc [6] (.nm 6) (.rng (.cons (.var 3) .nil)) (.so (.cmp .eq (.bin .band (.var 6) (.var 3)) (.var 6))) (.bin .add (.idx (.peek 2) (.var 6)) (.ite (.cmp .inn (.var 6) (.var 1)) (.var 4) (.kon (.int 0)))))
        |>.v [.va (.int (N : Int)), .va (rowD r), .ow (.lst (natD ls)), .va (.int (i : Int)), .va (.int (ou : Int)), c, d] s) (fun z s' => z = .lst (natD (((List.range i).filter fun low => decide (low &&& i = low)).map fun low => ls.getD low 0 + cst o i low)) ∧ s' = s) (fun _ _ _ => False) := fun _ => by
      simp [rng_nat (show i ≤ 1000000 by omega)]
      refine wp_lcN (fun low => decide (low &&& i = low)) (fun low => .int ((ls.getD low 0 + cst o i low : Nat) : Int)) (fun low hlow => ?_) ⟨?_, rfl⟩
      · have hlow := List.mem_range.mp hlow
        have hat := fun s => lst_at (s := s) (ls := ls) (j := low) (by omega)
        obtain ⟨v, hv⟩ : ∃ v, v = ls.getD low 0 := ⟨_, rfl⟩
        rw [← hv] at hat ⊢
        have hl := fun s => hin s low (by omega)
        obtain ⟨w, hw⟩ : ∃ w, w = low &&& i := ⟨_, rfl⟩
        have hband : binD .band (.int (low : Int)) (.int (i : Int)) = some (.int (w : Int)) := by rw [hw]; exact band_nat
        rw [← hw]
        simp [hband]
        by_cases hwl : w = low
        · have hwl' : (w : Int) = (low : Int) := by omega
          have hc : cst o i low = if o low = true then 0 else ou := by
            rw [hou]; unfold cst out1
            cases o i <;> cases o low <;> rfl
          rw [hc]
          simp [hwl, hat, hl]
          cases h : o low <;> simp
        · have hwl' : ¬ (w : Int) = (low : Int) := by omega
          simp [hwl, hwl']
      · rw [natD_map, List.map_map]; rfl
    have hstep := hstep (fun _ _ => True)
    have hfin : ∀ s, biD s .max1 [.lst (natD ((((List.range i).filter fun low => decide (low &&& i = low)).map fun low => ls.getD low 0 + cst o i low) ++ [ou]))] = some (.int ((lawF o ls i : Nat) : Int)) := fun s => by
      rw [max1_nat (by simp), hou]
      rfl
    have hle : (((List.range i).filter fun low => decide (low &&& i = low)).map fun low => ls.getD low 0 + cst o i low).length + 1 ≤ 1000 := by
      have := List.length_filter_le (fun low => decide (low &&& i = low)) (List.range i)
      rw [List.length_range] at this
      rw [List.length_map]
      omega
    have hadd := add_nats (ys := [ou]) hle
    obtain ⟨xs, hxs⟩ : ∃ xs, xs = (((List.range i).filter fun low => decide (low &&& i = low)).map fun low => ls.getD low 0 + cst o i low) := ⟨_, rfl⟩
    rw [← hxs] at hstep hfin hadd
    have hadd : binD .add (.lst (natD xs)) (.lst [.int (ou : Int)]) = some (.lst (natD (xs ++ [ou]))) := hadd
    have go : ∀ q : Int, (q = (ou : Int)) → wpR ((sem pk.T (clN pk.T pk.defs n) (.lc [6] (.nm 6) (.rng (.cons (.var 3) .nil)) (.so (.cmp .eq (.bin .band (.var 6) (.var 3)) (.var 6))) (.bin .add (.idx (.peek 2) (.var 6)) (.ite (.cmp .inn (.var 6) (.var 1)) (.var 4) (.kon (.int 0)))))).v [.va (.int (N : Int)), .va (rowD r), .ow (.lst (natD ls)), .va (.int (i : Int)), .va (.int q), c, d] s) (fun z s' => z = .lst (natD xs) ∧ s' = s) (fun _ _ _ => False) := fun q e => by rw [e]; exact hstep
    have hob := hout _ rfl
    rw [← hou] at hob
    simp [hiv, -w_lc]
    cases ho2 : o i with
    | false =>
      rw [ho2] at hob
      simp [-w_lc]
      refine (go 0 (by rw [hob]; rfl)).to fun z s' ⟨e1, e2⟩ => ?_
      subst e1; subst e2
      have h0 : ou = 0 := by simp at hob; omega
      subst h0
      simp at hadd hfin
      simp [hadd, hfin, hlen, natD_len, natD_snoc, hnext, big_eq]
      omega
    | true =>
      rw [ho2] at hob
      simp [-w_lc]
      refine (go 1 (by rw [hob]; rfl)).to fun z s' ⟨e1, e2⟩ => ?_
      subst e1; subst e2
      have h0 : ou = 1 := by simp at hob; omega
      subst h0
      simp at hadd hfin
      simp [hadd, hfin, hlen, natD_len, natD_snoc, hnext, big_eq]
      omega
  · obtain ⟨rfl, a, b, c, d, rfl⟩ := hI
    simp [rowD]
def longest (L : Nat → Nat) (m : Nat) (r : List Nat) : Nat := maxN (0 :: (outs m r).map L)
theorem c_l_longest (hn : 2 ≤ n) {m : Nat} (hm : m ≤ 8) {o : Nat → Bool} {r : List Nat} (ho : ∀ x, x < two m → decide (x ∈ r) = !o x) : C n "_law_longest" [.int (two m : Int), rowD r] st = .ok (.int ((longest (lawP o) m r : Nat) : Int)) st := by
  obtain ⟨n, rfl, hn⟩ := succ_of hn
  rw [C, u_l_longest, ← wpR_eq, wpR_outR]
  have hp := two_le hm
  simp [i_l_longest, c_l_levels (show 1 ≤ n by omega) hp ho, rng_nat (show two m ≤ 1000000 by omega)]
  refine ⟨by rw [big_eq]; omega, ?_⟩
  refine wp_lcN (fun x => !decide (x ∈ r)) (fun x => .int ((lawP o x : Nat) : Int)) (fun x hx => ?_) ?_
  · have hx := List.mem_range.mp hx
    have hat := lst_at (s := st) (ls := lawL o (two m)) (j := x) (by rw [lawL_len]; exact hx)
    rw [lawL_get hx] at hat
    have hni : ∀ s, cmpD s .nin (.int (x : Int)) (rowD r) = some (!decide (x ∈ r)) := fun s => congrArg (Option.map (!·)) (in_row (s := s))
    simp [hni]
    by_cases h : x ∈ r
    · simp [h]
    · simp [h]
      exact hat
  · have e : ((List.filter (fun x => !decide (x ∈ r)) (List.range (two m))).map fun x => D.int ((lawP o x : Nat) : Int)) = natD ((outs m r).map (lawP o)) := by
      rw [natD_map, List.map_map]; rfl
    rw [e]
    have hle := outs_len (m := m) (r := r)
    have hadd := add_nats (xs := [0]) (ys := (outs m r).map (lawP o)) (by rw [List.length_map]; have := pow_le hm; simp; omega)
    have hadd : binD .add (.lst [.int 0]) (.lst (natD ((outs m r).map (lawP o)))) = some (.lst (natD ([0] ++ (outs m r).map (lawP o)))) := hadd
    have hmx : ∀ s, biD s .max1 [.lst (natD ([0] ++ (outs m r).map (lawP o)))] = some (.int ((longest (lawP o) m r : Nat) : Int)) := fun s => max1_nat (by simp)
    simp only [hadd, hmx, Option.some.injEq, exists_eq_left', and_self]
end T46
end
section
set_option Elab.async false
set_option linter.all false
set_option maxRecDepth 100000
set_option maxHeartbeats 4000000
namespace T46
open PySem PySem.Spec PyProof.Rows L2 Nb M46
variable {n : Nat} {st : Sto}
/-! the walk down (plain) -/
def hAt (L : Nat → Nat) (ns : List Nat) (x k : Nat) : List Nat := ns.filter fun y => decide (y &&& x = y) && decide (L y = k)
def rowA (L : Nat → Nat) (ins out : List Nat) (x0 k0 : Nat) : Nat → List Nat × Nat
  | 0 => ([x0], x0)
  | i + 1 => 
    let p := rowA L ins out x0 k0 i
    let h := (hAt L ins p.2 (k0 - i)).getD 0 0
    let q := (hAt L out h (k0 - i)).getD 0 0
    (p.1 ++ [h, q], q)
theorem hAt_head {L : Nat → Nat} {ns : List Nat} {x k y : Nat} (h : y ∈ ns) (h1 : y &&& x = y) (h2 : L y = k) : ∃ z r, hAt L ns x k = z :: r ∧ z ∈ ns ∧ z &&& x = z ∧ L z = k := by
  have hm : y ∈ hAt L ns x k := by unfold hAt; rw [List.mem_filter]; simp [h, h1, h2]
  cases e : hAt L ns x k with
  | nil => rw [e] at hm; cases hm
  | cons z r =>
    have hz : z ∈ hAt L ns x k := by rw [e]; exact List.mem_cons_self
    unfold hAt at hz
    rw [List.mem_filter] at hz
    simp at hz
    exact ⟨z, r, rfl, hz.1, hz.2.1, hz.2.2⟩
structure InvA (m : Nat) (o : Nat → Bool) (L : Nat → Nat) (k0 i : Nat) (row : List Nat) (last : Nat) : Prop where
  len : row.length = 2 * i + 1
  end_ : row[2 * i]? = some last
  out : o last = true
  lt : last < 2 ^ m
  lv : L last = k0 + 1 - i
  all : ∀ x ∈ row, x < 2 ^ m
  par : ∀ j x, row[j]? = some x → o x = decide (j % 2 = 0)
  und : ∀ j x y, row[j]? = some x → row[j + 1]? = some y → Und y x
section
variable {m : Nat} {o : Nat → Bool} {L : Nat → Nat} {ins out : List Nat} {x0 k0 : Nat}
theorem stepA_ok (hL : LvA o (2 ^ m) L) (hin : ∀ x, x ∈ ins ↔ x < 2 ^ m ∧ o x = false) (hout : ∀ x, x ∈ out ↔ x < 2 ^ m ∧ o x = true) {i : Nat} (hi : i < k0) {row : List Nat} {last : Nat} (I : InvA m o L k0 i row last) :
    ∃ h q r1 r2, hAt L ins last (k0 - i) = h :: r1 ∧ hAt L out h (k0 - i) = q :: r2 ∧ InvA m o L k0 (i + 1) (row ++ [h, q]) q := by
  obtain ⟨low, hu, ho, hlv⟩ := hL.down_in last I.lt I.out (k0 - i) (by omega) (by have := I.lv; omega)
  obtain ⟨h, r1, e1, h1, h2, h3⟩ := hAt_head ((hin low).mpr ⟨Nat.lt_trans hu.1 I.lt, ho⟩) hu.2 hlv
  have hh := (hin h).mp h1
  obtain ⟨low2, hu2, ho2, hlv2⟩ := hL.down_out h hh.1 hh.2 (k0 - i) (by omega) h3
  obtain ⟨q, r2, e2, q1, q2, q3⟩ := hAt_head ((hout low2).mpr ⟨Nat.lt_trans hu2.1 hh.1, ho2⟩) hu2.2 hlv2
  have hq := (hout q).mp q1
  refine ⟨h, q, r1, r2, e1, e2, ?_⟩
  have hul : Und h last := ⟨Nat.lt_of_le_of_ne (le_of_und h2) fun e => absurd (hh.2.symm.trans (by rw [e, I.out])) Bool.false_ne_true, h2⟩
  have huq : Und q h := ⟨Nat.lt_of_le_of_ne (le_of_und q2) fun e => absurd (hh.2.symm.trans (by rw [← e, hq.2])) Bool.false_ne_true, q2⟩
  have at_ : ∀ j x, (row ++ [h, q])[j]? = some x → (j < 2 * i + 1 ∧ row[j]? = some x) ∨ (j = 2 * i + 1 ∧ x = h) ∨ (j = 2 * i + 2 ∧ x = q) := fun j x hx => by
    by_cases hj : j < 2 * i + 1
    · rw [List.getElem?_append_left (by rw [I.len]; exact hj)] at hx
      exact .inl ⟨hj, hx⟩
    · rw [List.getElem?_append_right (by rw [I.len]; omega), I.len] at hx
      obtain ⟨hlt, _⟩ := List.getElem?_eq_some_iff.mp hx
      simp only [List.length_cons, List.length_nil] at hlt
      rcases (show j - (2 * i + 1) = 0 ∨ j - (2 * i + 1) = 1 by omega) with e | e
      · rw [e] at hx; cases hx; exact .inr (.inl ⟨by omega, rfl⟩)
      · rw [e] at hx; cases hx; exact .inr (.inr ⟨by omega, rfl⟩)
  refine ⟨?_, ?_, hq.2, hq.1, by rw [q3]; omega, fun x hx => ?_, fun j x hx => ?_, fun j x y hx hy => ?_⟩
  · rw [List.length_append, I.len]; simp; omega
  · rw [List.getElem?_append_right (by rw [I.len]; omega), I.len, show 2 * (i + 1) - (2 * i + 1) = 1 by omega]; rfl
  · rcases List.mem_append.mp hx with hx | hx
    · exact I.all x hx
    · simp only [List.mem_cons, List.not_mem_nil, or_false] at hx
      rcases hx with rfl | rfl
      · exact hh.1
      · exact hq.1
  · rcases at_ j x hx with ⟨_, e⟩ | ⟨rfl, rfl⟩ | ⟨rfl, rfl⟩
    · exact I.par j x e
    · rw [hh.2]; exact (decide_eq_false (by omega)).symm
    · rw [hq.2]; exact (decide_eq_true (by omega)).symm
  · rcases at_ j x hx with ⟨a1, e⟩ | ⟨rfl, rfl⟩ | ⟨rfl, rfl⟩
    · rcases at_ (j + 1) y hy with ⟨_, e2⟩ | ⟨a2, rfl⟩ | ⟨a2, rfl⟩
      · exact I.und j x y e e2
      · have : j = 2 * i := by omega
        subst this
        rw [I.end_] at e; cases e
        exact hul
      · omega
    · rcases at_ (2 * i + 1 + 1) y hy with ⟨_, _⟩ | ⟨a2, _⟩ | ⟨_, rfl⟩
      · omega
      · omega
      · exact huq
    · rcases at_ (2 * i + 2 + 1) y hy with ⟨_, _⟩ | ⟨_, _⟩ | ⟨_, _⟩ <;> omega
theorem rowA_ok (hL : LvA o (2 ^ m) L) (hin : ∀ x, x ∈ ins ↔ x < 2 ^ m ∧ o x = false) (hout : ∀ x, x ∈ out ↔ x < 2 ^ m ∧ o x = true) (h0 : x0 ∈ out) (hk : L x0 = k0 + 1) : ∀ i, i ≤ k0 → InvA m o L k0 i (rowA L ins out x0 k0 i).1 (rowA L ins out x0 k0 i).2
  | 0, _ => by
    obtain ⟨h1, h2⟩ := (hout x0).mp h0
    refine ⟨rfl, rfl, h2, h1, by rw [show (rowA L ins out x0 k0 0).2 = x0 from rfl, hk]; omega, fun x hx => by rw [List.mem_singleton.mp hx]; exact h1, fun j x hx => ?_, fun j x y _ hy => ?_⟩
    · cases j with
      | zero => cases hx; rw [h2]; rfl
      | succ j => cases hx
    · cases hy
  | i + 1, hi => by
    obtain ⟨h, q, r1, r2, e1, e2, I⟩ := stepA_ok hL hin hout (show i < k0 by omega) (rowA_ok hL hin hout h0 hk i (by omega))
    have f1 : (rowA L ins out x0 k0 (i + 1)).1 = (rowA L ins out x0 k0 i).1 ++ [h, q] := by
      show (rowA L ins out x0 k0 i).1 ++ [(hAt L ins (rowA L ins out x0 k0 i).2 (k0 - i)).getD 0 0, (hAt L out ((hAt L ins (rowA L ins out x0 k0 i).2 (k0 - i)).getD 0 0) (k0 - i)).getD 0 0] = _
      rw [e1]
      show _ ++ [h, (hAt L out h (k0 - i)).getD 0 0] = _
      rw [e2]; rfl
    have f2 : (rowA L ins out x0 k0 (i + 1)).2 = q := by
      show (hAt L out ((hAt L ins (rowA L ins out x0 k0 i).2 (k0 - i)).getD 0 0) (k0 - i)).getD 0 0 = _
      rw [e1]
      show (hAt L out h (k0 - i)).getD 0 0 = _
      rw [e2]; rfl
    rw [f1, f2]
    exact I
end
/-- a longest alternation, ascending -/
structure Turns (m : Nat) (o : Nat → Bool) (k : Nat) (row : List Nat) : Prop where
  len : row.length = 2 * k - 1
  all : ∀ x ∈ row, x < 2 ^ m
  par : ∀ j x, row[j]? = some x → o x = decide (j % 2 = 0)
  und : ∀ j x y, row[j]? = some x → row[j + 1]? = some y → Und x y
theorem InvA.turns {m : Nat} {o : Nat → Bool} {L : Nat → Nat} {k0 : Nat} {row : List Nat} {last : Nat} (I : InvA m o L k0 k0 row last) : Turns m o (k0 + 1) row.reverse where
  len := by rw [List.length_reverse, I.len]; omega
  all := fun x hx => I.all x (List.mem_reverse.mp hx)
  par := fun j x hx => by
    obtain ⟨hj, _⟩ := List.getElem?_eq_some_iff.mp hx
    rw [List.length_reverse] at hj
    rw [List.getElem?_reverse hj] at hx
    rw [I.par _ x hx, I.len] 
    rw [I.len] at hj
    rw [decide_eq_decide]
    omega
  und := fun j x y hx hy => by
    obtain ⟨hj, _⟩ := List.getElem?_eq_some_iff.mp hy
    rw [List.length_reverse] at hj
    rw [List.getElem?_reverse (by omega)] at hx
    rw [List.getElem?_reverse hj] at hy
    refine I.und (row.length - 1 - (j + 1)) y x hy ?_
    rw [← hx]
    congr 1
    omega
end T46
end
section
set_option Elab.async false
set_option linter.all false
set_option maxRecDepth 100000
set_option maxHeartbeats 4000000
namespace T46
open PySem PySem.Spec PyProof.Rows L2 Nb M46
variable {n m : Nat} {st : Sto}
theorem lot_ok {m : Nat} (h1 : 1 ≤ m) (hm : m ≤ 8) {r : List Nat} (hr : Row m r) (hn : 6 ≤ n) : C n "need_settings" [grpD m r] st = .ok .non st := by
  rw [c_need_settings hn (grp_pl3 hm (by have := hr.len; have := pow_le hm; omega)), grp_lot h1 hm hr]
  rfl
theorem rng_down {k : Nat} (h : k ≤ 256) : (rngD [.int (k : Int), .int 0, .int (-1)]).bind few = some ((List.range k).map fun i : Nat => D.int ((k : Int) + (i : Int) * (-1))) := by
  have hh : ∀ k : _root_.Fin 257, rngK (k.val : Int) 0 (-1) = true ∧ Builtin.Range.rangeSize (k.val : Int) 0 (-1) = (k.val : Int) := by decide +kernel
  obtain ⟨h2, h3⟩ := hh ⟨k, by omega⟩
  have : rngD [.int (k : Int), .int 0, .int (-1)] = some (rngC (k : Int) (-1) (Builtin.Range.rangeSize (k : Int) 0 (-1)).toNat) := by
    unfold rngD
    dsimp only
    rw [if_pos h2]
  rw [this, h3, Option.bind_some, few_of (by unfold rngC; rw [List.length_map, List.length_range, big_eq]; omega)]
  rfl
theorem find_nat {v : Nat} : ∀ {xs : List Nat}, v ∈ xs → ∃ k, findD (.int (v : Int)) (natD xs) = some k ∧ xs[k]? = some v
  | x :: xs, h => by
    have e : findD (.int (v : Int)) (natD (x :: xs)) = if eqv (.int (x : Int)) (.int (v : Int)) = true then some 0 else (findD (.int (v : Int)) (natD xs)).map (· + 1) := rfl
    have e2 : eqv (.int (x : Int)) (.int (v : Int)) = decide (x = v) := by
      unfold eqv
      by_cases h : x = v
      · subst h; simp
      · have : ¬ (x : Int) = (v : Int) := by omega
        simp [h, this]
    rw [e, e2]
    by_cases hx : x = v
    · subst hx; exact ⟨0, by simp, rfl⟩
    · obtain ⟨k, k1, k2⟩ := find_nat ((List.mem_cons.mp h).resolve_left fun e => hx e.symm)
      exact ⟨k + 1, by simp [hx, k1], by simpa using k2⟩
theorem shaped_nat {xs : List Nat} : shapedD (.lst (natD xs)) = true := by
  unfold shapedD natD; simp only [okD, okDs_ints, depD, depDs_ints]; decide
theorem idx_mt {s : Sto} {v : Nat} {xs : List Nat} (h : v ∈ xs) : ∃ k : Nat, mtD s .index (.lst (natD xs)) [.int (v : Int)] = some (.int (k : Int)) ∧ xs[k]? = some v := by
  obtain ⟨k, h1, h2⟩ := find_nat h
  refine ⟨k, ?_, h2⟩
  show (if (shapedD (.int (v : Int)) && shapedD (.lst (natD xs))) = true then (findD (.int (v : Int)) (natD xs)).map (fun n : Nat => D.int (n : Int)) else none) = _
  rw [shaped_nat, show shapedD (.int (v : Int)) = true from rfl, if_pos (by rfl), h1]
  rfl
theorem idx_last {s : Sto} {xs : List Nat} {x : Nat} (h : xs[xs.length - 1]? = some x) : idxD s (.lst (natD xs)) (.int (-1)) = some (.int (x : Int)) := by
  show atI (natD xs) (-1) = _
  have hl := (List.getElem?_eq_some_iff.mp h).1
  unfold atI ixN
  rw [natD_len]
  rw [if_neg (by omega), if_pos (by omega)]
  show (natD xs)[(-1 + (xs.length : Int)).toNat]? = _
  rw [show (-1 + (xs.length : Int)).toNat = xs.length - 1 by omega, natD_map, List.getElem?_map, h]
  rfl
theorem maxN_of {xs : List Nat} (h : xs ≠ []) : maxN xs ∈ xs := maxN_mem h
theorem eq_nilL {s : Sto} {r : List Nat} : cmpD s .eq (rowD r) (.lst []) = some (decide (r = [])) := by
  have := ne_nilL (s := s) (r := r)
  have h2 : cmpD s .ne (rowD r) (.lst []) = (cmpD s .eq (rowD r) (.lst [])).map (!·) := rfl
  rw [h2] at this
  cases e : cmpD s .eq (rowD r) (.lst []) with
  | none => rw [e] at this; cases this
  | some b => rw [e] at this; simp at this; cases b <;> simp_all
theorem sixth {k : Nat} : 1 ≤ k → k ≤ 6 → k ≤ 8 := fun _ h => by omega
theorem all_at {s : Sto} {m i : Nat} (h : i < 2 ^ m) : idxD s (.tup (allS m)) (.int (i : Int)) = some (setT m i) := by
  show atI _ _ = _
  rw [atI_cast, allS_get h]
theorem rev_nat {xs : List Nat} : revD (.lst (natD xs)) = some (.lst (natD xs.reverse)) := by
  show some (D.lst (natD xs).reverse) = _
  unfold natD; simp
theorem oB_outs {m : Nat} {r : List Nat} {x : Nat} (h : x < 2 ^ m) : oB (outs m r) x = !decide (x ∈ r) := by
  unfold oB
  by_cases hx : x ∈ r
  · simp [outs_mem, hx]
  · simp [outs_mem, hx, h]
theorem c_alternation (h1 : 1 ≤ m) (hm : m ≤ 6) {r : List Nat} (hr : Row m r) : ∃ row, Turns m (oB (outs m r)) (longest (lvP (oB (outs m r)) m) m r) row ∧ ∀ n st, 7 ≤ n → C n "alternation" [grpD m r] st = .ok (.tup (row.map (setT m))) st := by
  have hm8 : m ≤ 8 := by omega
  obtain ⟨o, ho⟩ : ∃ o, o = oB (outs m r) := ⟨_, rfl⟩
  obtain ⟨out, hou⟩ : ∃ out, out = outs m r := ⟨_, rfl⟩
  have hpl := pow_le hm8
  have hol : out.length ≤ 256 := by rw [hou]; exact Nat.le_trans outs_len hpl
  have hrl : r.length ≤ 256 := Nat.le_trans hr.len hpl
  by_cases hnil : out = []
  · refine ⟨[], ?_, fun n st hn => ?_⟩
    · have e : longest (lvP (oB (outs m r)) m) m r = 0 := by unfold longest; rw [← hou, hnil]; rfl
      rw [e]
      exact ⟨rfl, fun _ h => absurd h (by simp), fun j x h => by simp at h, fun j x y h => by simp at h⟩
    · obtain ⟨n, rfl, hn2⟩ := succ_of hn
      rw [C, u_alternation, ← wpR_eq, wpR_outR]
      obtain ⟨i0, _, hg0⟩ := grp_first (s := st) (m := m) hr.ne
      simp [i_alternation, lot_ok h1 hm8 hr hn2, hg0, len_setT, c_outside_of (show 2 ≤ n by omega) h1 hm8 hr, ← hou, hnil, eq_nilL]
  · obtain ⟨L, hLdef⟩ : ∃ L, L = lvP o m := ⟨_, rfl⟩
    have hLv : LvA o (2 ^ m) L := by
      have h2 := lawP_ok (o := o) (N := 2 ^ m)
      have h3 : ∀ x, x < 2 ^ m → L x = lawP o x := by rw [hLdef]; exact lvP_ok.eq h2
      exact ⟨fun n hn => by rw [h3 n hn]; exact h2.base n hn, fun n low hn hu => by rw [h3 n hn, h3 low (Nat.lt_trans hu.1 hn)]; exact h2.up n low hn hu, fun n hn => by
        rw [h3 n hn]
        rcases h2.att n hn with e | ⟨low, hu, e⟩
        · exact .inl e
        · exact .inr ⟨low, hu, by rw [h3 low (Nat.lt_trans hu.1 hn)]; exact e⟩⟩
    have hoi : ∀ x, x < 2 ^ m → o x = !decide (x ∈ r) := fun x hx => by rw [ho]; exact oB_outs hx
    have hin : ∀ x, x ∈ r ↔ x < 2 ^ m ∧ o x = false := fun x => by
      constructor
      · intro h; have := hr.lt x h; exact ⟨this, by rw [hoi x this]; simp [h]⟩
      · rintro ⟨a, b⟩; rw [hoi x a] at b; simpa using b
    have hout : ∀ x, x ∈ out ↔ x < 2 ^ m ∧ o x = true := fun x => by
      rw [hou, outs_mem]
      constructor
      · rintro ⟨a, b⟩; exact ⟨a, by rw [hoi x a]; simp [b]⟩
      · rintro ⟨a, b⟩; rw [hoi x a] at b; exact ⟨a, by simpa using b⟩
    obtain ⟨mx, hmx⟩ : ∃ mx, mx = maxN (out.map L) := ⟨_, rfl⟩
    have hmm : mx ∈ out.map L := by rw [hmx]; exact maxN_mem (by simp [hnil])
    obtain ⟨k, hk1, hk2⟩ := find_nat hmm
    rw [List.getElem?_map] at hk2
    obtain ⟨x0, hx0, hLx⟩ := Option.map_eq_some_iff.mp hk2
    have hx0m : x0 ∈ out := List.mem_of_getElem? hx0
    obtain ⟨hx0l, hx0o⟩ := (hout x0).mp hx0m
    have hpos : 1 ≤ mx := by
      have := hLv.base x0 hx0l
      unfold out1 at this
      rw [hx0o, if_pos rfl] at this
      omega
    obtain ⟨k0, hk0⟩ : ∃ k0, mx = k0 + 1 := ⟨mx - 1, by omega⟩
    have hinv := rowA_ok hLv hin hout hx0m (k0 := k0) (by omega)
    have hlong : longest (lvP (oB (outs m r)) m) m r = k0 + 1 := by
      unfold longest
      rw [← ho, ← hou, ← hLdef, ← hk0, hmx]
      show max 0 (maxN (out.map L)) = _
      omega
    have hk0l : k0 ≤ 128 := by
      have I := hinv k0 (Nat.le_refl _)
      have nd : (rowA L r out x0 k0 k0).1.length ≤ 2 ^ m := by
        have hasc : (rowA L r out x0 k0 k0).1.reverse.Pairwise (· < ·) := by
          have T := I.turns
          have : ∀ (l : List Nat), (∀ j x y, l[j]? = some x → l[j + 1]? = some y → x < y) → l.Pairwise (· < ·) := by
            intro l
            induction l with
            | nil => intro _; exact List.Pairwise.nil
            | cons a l ih =>
              intro h
              have ih := ih fun j x y hx hy => h (j + 1) x y (by simpa using hx) (by simpa using hy)
              refine List.pairwise_cons.mpr ⟨fun b hb => ?_, ih⟩
              cases l with
              | nil => cases hb
              | cons c l =>
                have h0 := h 0 a c rfl rfl
                rcases List.mem_cons.mp hb with rfl | hb
                · exact h0
                · exact Nat.lt_trans h0 ((List.pairwise_cons.mp ih).1 b hb)
          exact this _ fun j x y hx hy => (T.und j x y hx hy).1
        have := asc_len (N := 2 ^ m) _ 0 hasc fun j hj => ⟨Nat.zero_le _, I.all j (List.mem_reverse.mp hj)⟩
        rw [List.length_reverse] at this
        exact this
      rw [I.len] at nd
      omega
    refine ⟨(rowA L r out x0 k0 k0).1.reverse, ?_, fun n st hn => ?_⟩
    · rw [hlong, ← ho]
      exact (hinv k0 (Nat.le_refl _)).turns
    · obtain ⟨n, rfl, hn2⟩ := succ_of hn
      rw [C, u_alternation, ← wpR_eq, wpR_outR]
      obtain ⟨i0, _, hg0⟩ := grp_first (s := st) (m := m) hr.ne
      have hlev : ∀ s, C n "levels_of" [.int (m : Int), rowD out] s = .ok (rowD ((List.range (two m)).map L)) s := fun s => by
        rw [c_levels_of (show 1 ≤ n by omega) hm8 hol, levs_map, hLdef, ho, hou]
      have hLat : ∀ s (x : Nat), x < 2 ^ m → idxD s (rowD ((List.range (two m)).map L)) (.int (x : Int)) = some (.int ((L x : Nat) : Int)) := fun s x hx => by
        rw [idx_row, List.getElem?_map, List.getElem?_range (show x < two m from hx)]; rfl
      obtain ⟨LD, hLD⟩ : ∃ LD, LD = rowD ((List.range (two m)).map L) := ⟨_, rfl⟩
      rw [← hLD] at hlev
      simp only [← hLD] at hLat
      have hgi : (itemsD (grpD m r)).bind few = some (r.map (setT m)) := by
        show few (r.map (setT m)) = _
        exact few_of (by rw [List.length_map, big_eq]; omega)
      have hoi2 : (itemsD (rowD out)).bind few = some (natD out) := few_nat (r := out) (by omega)
      have hri2 : (itemsD (rowD r)).bind few = some (natD r) := few_nat (r := r) (by omega)
      obtain ⟨fin, hfin⟩ : ∃ fin, fin = (rowA L r out x0 k0 k0).1.reverse.map (setT m) := ⟨_, rfl⟩
      rw [← hfin]
      unfold i_alternation
      rw [w_scons]
      simp [-w_scons, lot_ok h1 hm8 hr hn2]
      rw [w_scons]
      simp [-w_scons, hg0, len_setT, c_outside_of (show 2 ≤ n by omega) h1 hm8 hr, ← hou]
      rw [w_scons]
      simp [-w_scons, eq_nilL, hnil]
      rw [w_scons]
      simp [-w_scons, hlev, c_settings_of (show 3 ≤ n by omega) hm, big_eq]
      rw [w_scons]
      simp [-w_scons, hgi]
      refine wp_lcmm (fun i : Nat => .int (i : Int)) (fun i hi => ?_) ?_
      · simp [c_number_of (show 1 ≤ n by omega) hm8 (hr.lt i hi)]
      rw [← natD_map, w_scons]
      have hlevels : ∀ (X : Str → List (Str × D) → Sto → Prop) (Q : D → Sto → Prop) (a b c : Sl), Q (.lst (natD (out.map L))) st → wpR ((sem pk.T (clN pk.T pk.defs n) (.lc [8] (.nm 8) (.seq (.var 2)) .no (.idx (.var 3) (.var 8)))).v [.va (grpD m r), .va (.int (m : Int)), .va (rowD out), .va LD, .va (.tup (allS m)), .va (.lst (natD r)), .no, a, b, c, .no] st) Q X := fun X Q a b c hQ => by
        simp [hoi2]
        refine wp_lcNm (fun i => .int ((L i : Nat) : Int)) (fun i hi => ?_) ?_
        · have hi := ((hout i).mp hi).1
          simp [hLat _ i hi]
        · rw [show (out.map fun i => D.int ((L i : Nat) : Int)) = natD (out.map L) by rw [natD_map, List.map_map]; rfl]
          exact hQ
      have hi1 : mtD st .index (.lst (natD (out.map L))) [.int (mx : Int)] = some (.int (k : Int)) := by
        show (if (shapedD (.int (mx : Int)) && shapedD (.lst (natD (out.map L)))) = true then (findD (.int (mx : Int)) (natD (out.map L))).map (fun n : Nat => D.int (n : Int)) else none) = _
        rw [shaped_nat, show shapedD (.int (mx : Int)) = true from rfl, if_pos (by rfl), hk1]
        rfl
      have hi2 : ∀ s, idxD s (rowD out) (.int (k : Int)) = some (.int (x0 : Int)) := fun s => by rw [idx_row, hx0]; rfl
      have hmx1 : biD st .max1 [.lst (natD (out.map L))] = some (.int (mx : Int)) := by rw [hmx]; exact max1_nat (by simp [hnil])
      simp [-w_scons, -w_lc]
      refine hlevels _ _ _ _ _ ?_
      simp [-w_scons, -w_lc]
      refine hlevels _ _ _ _ _ ?_
      simp [-w_scons, -w_lc, hmx1, hi1, hi2, big_eq, isOwn]
      rw [w_scons, w_for]
      have hx00 : ∀ s, idxD s (.lst [.int (x0 : Int)]) (.int 0) = some (.int (x0 : Int)) := fun s => atI_cast (xs := [D.int (x0 : Int)]) (i := 0)
      have hrg : (rngD [.int (((L x0 : Nat) : Int) - 1), .int 0, .int (-1)]).bind few = some ((List.range k0).map fun i : Nat => D.int ((k0 : Int) + (i : Int) * (-1))) := by
        rw [hLx, hk0, show (((k0 + 1 : Nat) : Int) - 1) = (k0 : Int) by omega]
        exact rng_down (by omega)
      simp [-w_scons, -w_lc, hx00, hLat _ x0 hx0l, hrg]
      refine wp_fori (fun i e s => s = st ∧ ∃ a b c, e = [.va (grpD m r), .va (.int (m : Int)), .va (rowD out), .va LD, .va (.tup (allS m)), .va (.lst (natD r)), .no, .ow (.lst (natD (rowA L r out x0 k0 i).1)), a, b, c]) ⟨rfl, _, _, _, rfl⟩ (fun i v e s hv hI => ?_) fun e s hI => ?_
      · obtain ⟨rfl, a, b, c, rfl⟩ := hI
        rw [List.getElem?_map] at hv
        obtain ⟨i', hi', rfl⟩ := Option.map_eq_some_iff.mp hv
        obtain ⟨hi1, hi2'⟩ := List.getElem?_eq_some_iff.mp hi'
        rw [List.getElem_range] at hi2'
        subst hi2'
        have hi1 : i < k0 := by simpa using hi1
        obtain ⟨lv, hlv⟩ : ∃ lv, lv = k0 - i := ⟨_, rfl⟩
        rw [show (k0 : Int) + -(i : Int) = (lv : Int) by omega]
        have I := hinv i (by omega)
        obtain ⟨h, q, r1, r2, e1, e2, _⟩ := stepA_ok hLv hin hout hi1 I
        have f1 : (rowA L r out x0 k0 (i + 1)).1 = (rowA L r out x0 k0 i).1 ++ [h, q] := by
          show (rowA L r out x0 k0 i).1 ++ [(hAt L r (rowA L r out x0 k0 i).2 (k0 - i)).getD 0 0, (hAt L out ((hAt L r (rowA L r out x0 k0 i).2 (k0 - i)).getD 0 0) (k0 - i)).getD 0 0] = _
          rw [e1]
          show _ ++ [h, (hAt L out h (k0 - i)).getD 0 0] = _
          rw [e2]; rfl
        rw [← hlv] at e1 e2
        have hlen := I.len
        have hend := I.end_
        obtain ⟨row, hrow⟩ : ∃ row, row = (rowA L r out x0 k0 i).1 := ⟨_, rfl⟩
        obtain ⟨last, hlast⟩ : ∃ last, last = (rowA L r out x0 k0 i).2 := ⟨_, rfl⟩
        rw [← hrow] at hlen hend f1 ⊢
        rw [← hlast] at hend e1
        have hil : ∀ s, idxD s (.lst (natD row)) (.int (-1)) = some (.int (last : Int)) := fun s => idx_last (by rw [hlen]; exact hend)
        refine ⟨_, rfl, ?_⟩
        rw [w_scons]
        simp [-w_scons, hri2, few_nat (show r.length ≤ 1000000 by omega)]
        refine wp_lcNf (fun y => decide (y &&& last = y) && decide (L y = lv)) (fun y hy => ?_) ?_
        · have hy := ((hin y).mp hy).1
          obtain ⟨w, hw⟩ : ∃ w, w = y &&& last := ⟨_, rfl⟩
          have hband : binD .band (.int (y : Int)) (.int (last : Int)) = some (.int (w : Int)) := by rw [hw]; exact band_nat
          rw [← hw]
          simp [hil, hband]
          by_cases hwy : w = y
          · have hwy' : (w : Int) = (y : Int) := by omega
            simp [hwy, hLat _ y hy]
            by_cases hl : L y = lv
            · simp [hl]
            · have : ¬ ((L y : Nat) : Int) = (lv : Int) := by omega
              simp [hl, this]
          · have hwy' : ¬ (w : Int) = (y : Int) := by omega
            simp [hwy, hwy']
        rw [show List.filter (fun y => decide (y &&& last = y) && decide (L y = lv)) r = h :: r1 from e1]
        have hh0 : ∀ s, idxD s (.lst (natD (h :: r1))) (.int 0) = some (.int (h : Int)) := fun s => idx_natD (i := 0)
        simp [-w_scons, hh0]
        rw [w_scons]
        simp [-w_scons, natD_len, hlen, big_eq]
        refine ⟨by omega, ?_⟩
        rw [w_scons]
        simp [-w_scons, few_nat (show out.length ≤ 1000000 by omega), hoi2]
        refine wp_lcNf (fun y => decide (y &&& h = y) && decide (L y = lv)) (fun y hy => ?_) ?_
        · have hy := ((hout y).mp hy).1
          obtain ⟨w, hw⟩ : ∃ w, w = y &&& h := ⟨_, rfl⟩
          have hband : binD .band (.int (y : Int)) (.int (h : Int)) = some (.int (w : Int)) := by rw [hw]; exact band_nat
          rw [← hw]
          simp [hband]
          by_cases hwy : w = y
          · have hwy' : (w : Int) = (y : Int) := by omega
            simp [hwy, hLat _ y hy]
            by_cases hl : L y = lv
            · simp [hl]
            · have : ¬ ((L y : Nat) : Int) = (lv : Int) := by omega
              simp [hl, this]
          · have hwy' : ¬ (w : Int) = (y : Int) := by omega
            simp [hwy, hwy']
        rw [show List.filter (fun y => decide (y &&& h = y) && decide (L y = lv)) out = q :: r2 from e2]
        have hh0 : ∀ s, idxD s (.lst (natD (q :: r2))) (.int 0) = some (.int (q : Int)) := fun s => idx_natD (i := 0)
        simp [hh0, natD_len, hlen, big_eq, f1]
        refine ⟨by omega, ?_⟩
        unfold natD
        simp
      · obtain ⟨rfl, a, b, c, rfl⟩ := hI
        simp [-w_lc]
        have hrl2 : ((rowA L r out x0 k0 k0).1.reverse).length ≤ 1000000 := by
          rw [List.length_reverse, (hinv k0 (Nat.le_refl _)).len]; omega
        simp [rev_nat, few_nat hrl2]
        refine wp_lcNm (fun i => setT m i) (fun i hi => ?_) ?_
        · have hi2 := (hinv k0 (Nat.le_refl _)).all i (List.mem_reverse.mp hi)
          simp [all_at hi2]
        · rw [← hfin]
          simp
end T46
end
section
set_option Elab.async false
set_option linter.all false
set_option maxRecDepth 100000
set_option maxHeartbeats 4000000
namespace T46
open PySem PySem.Spec PyProof.Rows L2 Nb M46
variable {n m : Nat} {st : Sto}
def rp (m i : Nat) : Str := reprD (setT m i)
theorem rp_strOk : ∀ m : _root_.Fin 7, ∀ i : _root_.Fin 64, i.val < 2 ^ m.val → PyData.strOk (rp m.val i.val) = true := by decide +kernel
theorem rp_nodup : ∀ m : _root_.Fin 7, ((List.range (2 ^ m.val)).map (rp m.val)).Nodup := by decide +kernel
end T46
end
section
set_option Elab.async false
set_option linter.all false
set_option maxRecDepth 100000
set_option maxHeartbeats 4000000
namespace T46
open PySem PySem.Spec PyProof.Rows L2 Nb M46
variable {n m : Nat} {st : Sto}
theorem rp_ok {i : Nat} (hm : m ≤ 6) (hi : i < 2 ^ m) : PyData.strOk (rp m i) = true := by
  have : 2 ^ m ≤ 64 := Nat.pow_le_pow_right (n := 2) (by decide) hm
  exact rp_strOk ⟨m, by omega⟩ ⟨i, by omega⟩ hi
theorem rp_inj {i j : Nat} (hm : m ≤ 6) (hi : i < 2 ^ m) (hj : j < 2 ^ m) (h : rp m i = rp m j) : i = j := by
  have nd : ((List.range (2 ^ m)).map (rp m)).Nodup := rp_nodup ⟨m, by omega⟩
  rw [List.nodup_iff_pairwise_ne, List.pairwise_map] at nd
  have key : ∀ a b, a < b → b < 2 ^ m → rp m a ≠ rp m b := fun a b hab hb => by
    have := List.pairwise_iff_getElem.mp nd a b (by rw [List.length_range]; omega) (by rw [List.length_range]; exact hb) hab
    rw [List.getElem_range, List.getElem_range] at this
    exact this
  rcases Nat.lt_trichotomy i j with q | q | q
  · exact absurd h (key i j q hj)
  · exact q
  · exact absurd h.symm (key j i q hi)
theorem repr_set {s : Sto} {i : Nat} (hm : m ≤ 8) (hi : i < 2 ^ m) : biD s .repr [setT m i] = some (.str (rp m i)) :=
  (rp_tupI (S_facts hm hi).2 (by rw [(S_facts hm hi).1]; exact hm)).ok (by decide) (by decide) s
/-- texts in lists -/
theorem okDs_strs : ∀ {xs : List Str}, (∀ x ∈ xs, PyData.strOk x = true) → okDs (xs.map .str) = true
  | [], _ => by simp [okDs]
  | x :: xs, h => by
    simp only [List.map_cons, okDs, okD, h x List.mem_cons_self, Bool.true_and]
    exact okDs_strs fun y hy => h y (List.mem_cons_of_mem _ hy)
theorem depDs_strs : ∀ {xs : List Str}, depDs (xs.map .str) = 0
  | [] => by simp [depDs]
  | _ :: xs => by simp only [List.map_cons, depDs, depD]; rw [depDs_strs (xs := xs)]; rfl
theorem shaped_strs {xs : List Str} (h : ∀ x ∈ xs, PyData.strOk x = true) : shapedD (.lst (xs.map .str)) = true := by
  unfold shapedD; simp only [okD, okDs_strs h, depD, depDs_strs]; decide
theorem shaped_str {x : Str} (h : PyData.strOk x = true) : shapedD (.str x) = true := by
  unfold shapedD; rw [show okD (.str x) = true from h]; rfl
theorem eqv_str {x y : Str} : eqv (.str x) (.str y) = decide (x = y) := by
  unfold eqv
  by_cases h : x = y
  · subst h; simp
  · simp [h]
theorem any_strs {x : Str} {xs : List Str} : ((xs.map D.str).any fun y => eqv y (.str x)) = decide (x ∈ xs) := by
  induction xs with
  | nil => simp
  | cons y xs ih =>
    rw [List.map_cons, List.any_cons, ih, eqv_str]
    by_cases h1 : y = x <;> by_cases h2 : x ∈ xs <;> simp [h1, h2]
    intro e; exact h1 e.symm
theorem in_strs {s : Sto} {x : Str} {xs : List Str} (hx : PyData.strOk x = true) (h : ∀ x ∈ xs, PyData.strOk x = true) : inD s (.str x) (.lst (xs.map .str)) = some (decide (x ∈ xs)) := by
  unfold inD
  dsimp only [derefD]
  rw [shaped_str hx, shaped_strs h, if_pos (by rfl), any_strs]
theorem find_strs {x : Str} : ∀ {xs : List Str} {k : Nat}, xs[k]? = some x → (∀ j, j < k → xs[j]? ≠ some x) → findD (.str x) (xs.map .str) = some k
  | [], k, h, _ => by simp at h
  | y :: xs, k, h, hn => by
    have e : findD (.str x) ((y :: xs).map .str) = if eqv (.str y) (.str x) = true then some 0 else (findD (.str x) (xs.map .str)).map (· + 1) := rfl
    rw [e, eqv_str]
    cases k with
    | zero =>
      cases h
      simp
    | succ k =>
      have : ¬ y = x := fun q => hn 0 (by omega) (by rw [q]; rfl)
      rw [if_neg (by simp [this]), find_strs (xs := xs) (k := k) (by simpa using h) fun j hj => by
        have := hn (j + 1) (by omega)
        simpa using this]
      rfl
def shownS (m : Nat) : List Str := (List.range (two m)).map (rp m)
theorem shown_ok (hm : m ≤ 6) : ∀ x ∈ shownS m, PyData.strOk x = true := fun x hx => by
  obtain ⟨i, hi, rfl⟩ := List.mem_map.mp hx
  exact rp_ok hm (List.mem_range.mp hi)
theorem in_shown {s : Sto} {i : Nat} (hm : m ≤ 6) (hi : i < 2 ^ m) : cmpD s .nin (.str (rp m i)) (.lst ((shownS m).map .str)) = some false := by
  show (inD s _ _).map (!·) = _
  rw [in_strs (rp_ok hm hi) (shown_ok hm)]
  have : rp m i ∈ shownS m := List.mem_map.mpr ⟨i, List.mem_range.mpr hi, rfl⟩
  simp [this]
theorem mt_shown {s : Sto} {i : Nat} (hm : m ≤ 6) (hi : i < 2 ^ m) : mtD s .index (.lst ((shownS m).map .str)) [.str (rp m i)] = some (.int (i : Int)) := by
  show (if (shapedD (.str (rp m i)) && shapedD (.lst ((shownS m).map .str))) = true then (findD (.str (rp m i)) ((shownS m).map .str)).map (fun n : Nat => D.int (n : Int)) else none) = _
  rw [shaped_strs (shown_ok hm), shaped_str (rp_ok hm hi), if_pos (by rfl), find_strs (k := i)]
  · rfl
  · unfold shownS
    rw [List.getElem?_map, List.getElem?_range (show i < two m from hi)]; rfl
  · intro j hj h
    unfold shownS at h
    rw [List.getElem?_map, List.getElem?_range (show j < two m from Nat.lt_trans hj hi)] at h
    have := rp_inj hm (Nat.lt_trans hj hi) hi (Option.some.inj h)
    omega
theorem cm_neb {s : Sto} {a b : Bool} : cmpD s .ne (.bl a) (.bl b) = some (!(a == b)) := rfl
theorem band1 {j : Nat} : binD .band (.int (j : Int)) (.int 1) = some (.int ((j % 2 : Nat) : Int)) := by
  have := band_nat (a := j) (b := 1)
  rw [Nat.and_one_is_mod] at this
  exact this
theorem ne_nils {s : Sto} : cmpD s .ne (.lst []) (.lst []) = some false := rfl
theorem c_l_turns (hn : 3 ≤ n) (h1 : 1 ≤ m) (hm : m ≤ 6) {r : List Nat} (hr : Row m r) {o : Nat → Bool} (ho : ∀ x, x < 2 ^ m → decide (x ∈ r) = !o x) {row : List Nat} (T : Turns m o (longest (lawP o) m r) row) (hl : row.length ≤ 1000) :
    C n "_law_turns" [.int (m : Int), rowD r, .tup (row.map (setT m))] st = .ok (.bl true) st := by
  obtain ⟨n, rfl, hn2⟩ := succ_of hn
  rw [C, u_l_turns, ← wpR_eq, wpR_outR]
  have hm8 : m ≤ 8 := by omega
  have hfa : few (allS m) = some (allS m) := few_of (by unfold allS; rw [List.length_map, List.length_range, big_eq]; have := pow_le hm8; omega)
  have hfr : few (row.map (setT m)) = some (row.map (setT m)) := few_of (by rw [List.length_map, big_eq]; omega)
  unfold i_l_turns
  rw [w_scons]
  simp [-w_scons, c_l_all (show 1 ≤ n by omega) hm, hfa]
  unfold allS
  refine wp_lcmm (fun i : Nat => .str (rp m i)) (fun i hi => ?_) ?_
  · simp [repr_set hm8 (List.mem_range.mp hi)]
  rw [show (List.range (2 ^ m)).map (fun i : Nat => D.str (rp m i)) = (shownS m).map .str by unfold shownS; rw [List.map_map]; rfl]
  rw [w_scons]
  simp [-w_scons, hfr]
  refine wp_lcF (fun _ => false) (fun i : Nat => setT m i) (fun i hi => ?_) ?_
  · have hi := T.all i hi
    simp [repr_set hm8 hi, in_shown hm hi]
  rw [show (row.filter fun _ => false).map (fun i : Nat => setT m i) = [] by simp]
  refine .inl ⟨ne_nils, ?_⟩
  rw [w_scons]
  simp [-w_scons, hfr]
  refine wp_lcmm (fun i : Nat => .int (i : Int)) (fun i hi => ?_) ?_
  · have hi := T.all i hi
    have hmb : ∀ s, mtB .index s (.lst ((shownS m).map .str)) = true := fun _ => rfl
    simp [repr_set hm8 hi, mt_shown hm hi]
  rw [← natD_map, w_scons, w_for]
  have hen : few (enuD (natD row)) = some (enuD (natD row)) := few_of (by rw [enuD_length, natD_len, big_eq]; omega)
  have hits : itsD (.lst (natD row)) = some (natD row) := rfl
  simp [-w_scons, hits, hen]
  refine wp_fori (fun i e s => s = st ∧ ∃ a b c, e = [.va (.int (m : Int)), .va (rowD r), .va (.tup (row.map (setT m))), .va (.lst ((shownS m).map .str)), .no, .va (.lst (natD row)), a, b, c]) ⟨rfl, _, _, _, rfl⟩ (fun i v e s hv hI => ?_) fun e s hI => ?_
  · obtain ⟨rfl, a, b, c, rfl⟩ := hI
    obtain ⟨x, hx, rfl⟩ := enuD_get hv
    obtain ⟨y, hy, rfl⟩ := natD_get hx
    have hyl := T.all y (List.mem_of_getElem? hy)
    have hin : ∀ s, cmpD s .inn (.int (y : Int)) (rowD r) = some (!decide (i % 2 = 0)) := fun s => by
      have := in_row (s := s) (i := y) (r := r)
      rw [ho y hyl, T.par i y hy] at this
      exact this
    have h01 : i % 2 = 0 ∨ i % 2 = 1 := by omega
    simp [-w_scons]
    rw [w_scons]
    simp [-w_scons, hin, band1, cm_neb]
    have hc1 : ((((i % 2 : Nat) : Int) == 1) = !decide (i % 2 = 0)) := by
      rcases h01 with e | e <;> rw [e] <;> rfl
    have hc1' : (!decide (i % 2 = 0) == (((i % 2 : Nat) : Int) == 1)) = true := by rw [hc1]; simp
    by_cases hi0 : i = 0
    · subst hi0
      simp
    · obtain ⟨p, hp⟩ : ∃ p, p = row.getD (i - 1) 0 := ⟨_, rfl⟩
      have hp1 : row[i - 1]? = some p := by
        have hl1 := (List.getElem?_eq_some_iff.mp hy).1
        rw [hp, List.getD_eq_getElem?_getD, List.getElem?_eq_getElem (by omega)]; rfl
      have hu := T.und (i - 1) p y hp1 (by rw [show i - 1 + 1 = i by omega]; exact hy)
      have hip : ∀ s, idxD s (.lst (natD row)) (.int ((i : Int) - 1)) = some (.int (p : Int)) := fun s => by
        rw [show (i : Int) - 1 = ((i - 1 : Nat) : Int) by omega, idx_natD, hp1]; rfl
      have hband : binD .band (.int (p : Int)) (.int (y : Int)) = some (.int (p : Int)) := by rw [band_nat, hu.2]
      have hne : ¬ (p : Int) = (y : Int) := by have := hu.1; omega
      have hpos : 0 < i := by omega
      rcases h01 with e | e <;> simp [e, hip, hband, hne, hpos] <;> omega
  · obtain ⟨rfl, a, b, c, rfl⟩ := hI
    have hsl : (shownS m).length = two m := by unfold shownS; simp
    have hmul : ∀ a : Int, binD .mul (.int 2) (.int a) = some (.int (2 * a)) := fun a => mul_smallL (by decide) (by decide)
    have hlo := c_l_longest (n := n) (st := s) (by omega) hm8 (o := o) (r := r) (fun x hx => ho x hx)
    have hT := T.len
    obtain ⟨k, hk⟩ : ∃ k, k = longest (lawP o) m r := ⟨_, rfl⟩
    rw [← hk] at hlo hT
    have hmx : biD s .max2 [.int 0, .int (2 * (k : Int) - 1)] = some (.int ((row.length : Nat) : Int)) := by
      show some (D.int (if (2 * (k : Int) - 1) > 0 then (2 * (k : Int) - 1) else 0)) = _
      congr 2
      split <;> omega
    simp [hsl, hlo, hmul, hmx]
end T46
end
section
set_option Elab.async false
set_option linter.all false
set_option maxRecDepth 100000
set_option maxHeartbeats 4000000
namespace T46
open PySem PySem.Spec PyProof.Rows L2 Nb M46
variable {n m : Nat} {st : Sto}
def tupN (ws : List Nat) : D := .tup (natD ws)
def chs (m : Nat) : Nat → List (List Nat)
  | 0 => [[]]
  | s + 1 => (chs m s).flatMap fun row => ((List.range m).filter fun a => decide (∀ b ∈ row, b < a)).map fun a => row ++ [a]
theorem c_choices_of (hn : 5 ≤ n) (hm : m ≤ 4) {k : Nat} (hk : k ≤ m) : C n "choices_of" [.int (m : Int), .int (k : Int)] st = .ok (.lst ((chs m k).map tupN)) st := by
  obtain ⟨n, rfl⟩ : ∃ k, n = k + 5 := ⟨n - 5, by omega⟩
  rcases (show m = 0 ∨ m = 1 ∨ m = 2 ∨ m = 3 ∨ m = 4 by omega) with rfl | rfl | rfl | rfl | rfl <;>
  rcases (show k = 0 ∨ k = 1 ∨ k = 2 ∨ k = 3 ∨ k = 4 by omega) with rfl | rfl | rfl | rfl | rfl <;> first | (exfalso; omega) | kernel_rfl
def hitB (m : Nat) (ws : List Nat) (x : Nat) : Bool := ws.any fun w => x.testBit (m - 1 - w)
def hitA (m : Nat) (out : List Nat) (ws : List Nat) : Bool := out.all (hitB m ws)
def hitG (m : Nat) (out : List Nat) (ws : List Nat) : Option D := if hitA m out ws = true then some (tupN ws) else none
def firstH (m : Nat) (out : List Nat) : Option D := (List.range (m + 1)).findSome? fun k => (chs m k).findSome? (hitG m out)
theorem chs_lt : ∀ (m k : Nat), ∀ ws ∈ chs m k, ∀ w ∈ ws, w < m
  | m, 0, ws, h, w, hw => by unfold chs at h; rw [List.mem_singleton.mp h] at hw; cases hw
  | m, k + 1, ws, h, w, hw => by
    unfold chs at h
    obtain ⟨row, hr, hws⟩ := List.mem_flatMap.mp h
    obtain ⟨a, ha, rfl⟩ := List.mem_map.mp hws
    rcases List.mem_append.mp hw with hw | hw
    · exact chs_lt m k row hr w hw
    · rw [List.mem_singleton.mp hw]
      exact List.mem_range.mp (List.mem_filter.mp ha).1
theorem chs_len : ∀ (m k : Nat), ∀ ws ∈ chs m k, ws.length = k
  | m, 0, ws, h => by unfold chs at h; rw [List.mem_singleton.mp h]; rfl
  | m, k + 1, ws, h => by
    unfold chs at h
    obtain ⟨row, hr, hws⟩ := List.mem_flatMap.mp h
    obtain ⟨a, ha, rfl⟩ := List.mem_map.mp hws
    rw [List.length_append, chs_len m k row hr]; rfl
theorem set_at {s : Sto} {x w : Nat} (hw : w < m) : idxD s (setT m x) (.int (w : Int)) = some (.int (if x.testBit (m - 1 - w) = true then 1 else 0)) := by
  show atI _ _ = _
  rw [atI_cast, List.getElem?_map]
  unfold S
  rw [List.getElem?_map, List.getElem?_range hw]
  rfl
theorem chs_small {k : Nat} (hm : m ≤ 4) (hk : k ≤ m) : (chs m k).length ≤ 6 := by
  have : ∀ m : _root_.Fin 5, ∀ k : _root_.Fin 5, k.val ≤ m.val → (chs m.val k.val).length ≤ 6 := by decide +kernel
  exact this ⟨m, by omega⟩ ⟨k, by omega⟩ hk
theorem c_hit_wires (hn : 7 ≤ n) (h1 : 1 ≤ m) (hm : m ≤ 4) {r : List Nat} (hr : Row m r) : C n "hit_wires" [grpD m r] st = .ok ((firstH m (outs m r)).getD .non) st := by
  obtain ⟨n, rfl, hn2⟩ := succ_of hn
  rw [C, u_hit_wires, ← wpR_eq, wpR_outR]
  have hm8 : m ≤ 8 := by omega
  obtain ⟨i0, _, hg0⟩ := grp_first (s := st) (m := m) hr.ne
  have hol := outs_len (m := m) (r := r)
  have hpl := pow_le hm8
  have hof : (itemsD (rowD (outs m r))).bind few = some (natD (outs m r)) := few_nat (by omega)
  have hofs : few ((outs m r).map (setT m)) = some ((outs m r).map (setT m)) := few_of (by rw [List.length_map, big_eq]; omega)
  have hro : ∀ x ∈ outs m r, x < 2 ^ m := fun x hx => (outs_mem.mp hx).1
  obtain ⟨out, hout⟩ : ∃ out, out = outs m r := ⟨_, rfl⟩
  unfold i_hit_wires
  rw [w_scons]
  simp [-w_scons, lot_ok h1 hm8 hr (show 6 ≤ n by omega)]
  rw [w_scons]
  simp [-w_scons, hg0, len_setT, c_settings_of (show 3 ≤ n by omega) (show m ≤ 6 by omega), big_eq]
  rw [w_scons]
  simp [-w_scons, c_outside_of (show 2 ≤ n by omega) h1 hm8 hr, hof]
  refine wp_lcNm (fun x => setT m x) (fun x hx => ?_) ?_
  · simp [all_at (hro x hx)]
  rw [← hout] at hofs ⊢
  rw [w_scons, w_for]
  have hrm := rng_nat (show m + 1 ≤ 1000000 by omega)
  have hrm2 : (rngD [.int ((m : Int) + 1)]).bind few = some (natD (List.range (m + 1))) := hrm
  simp [-w_scons, hrm2]
  rw [natD_map]
  have J := fun e : Enw => ∃ a b c d, e = [.va (grpD m r), .va (.int (m : Int)), .va (.tup (allS m)), .va (.lst (out.map fun x => setT m x)), .no, a, b, c, d]
  refine wp_forFind (fun k => (chs m k).findSome? (hitG m out)) (fun e => ∃ a b c d, e = [.va (grpD m r), .va (.int (m : Int)), .va (.tup (allS m)), .va (.lst (out.map fun x => setT m x)), .no, a, b, c, d]) _ _ ⟨_, _, _, _, rfl⟩ (fun k hk e he => ?_) (fun d hd => ?_) fun hd e he => ?_
  · obtain ⟨a, b, c, d, rfl⟩ := he
    have hk : k ≤ m := by have := List.mem_range.mp hk; omega
    have hcf : few ((chs m k).map tupN) = some ((chs m k).map tupN) := few_of (by rw [List.length_map, big_eq]; have := chs_small hm hk; omega)
    refine ⟨_, rfl, ?_⟩
    rw [w_scons, w_for]
    simp [-w_scons, c_choices_of (show 5 ≤ n by omega) hm hk, hcf]
    refine wp_forFind (hitG m out) (fun e => ∃ b c d, e = [.va (grpD m r), .va (.int (m : Int)), .va (.tup (allS m)), .va (.lst (out.map fun x => setT m x)), .no, .va (.int (k : Int)), b, c, d]) _ _ ⟨_, _, _, rfl⟩ (fun ws hws e he => ?_) (fun d hd => ?_) fun hd e he => ?_
    · obtain ⟨b, c, d, rfl⟩ := he
      refine ⟨_, rfl, ?_⟩
      have hwl := chs_len m k ws hws
      have hwf : (itemsD (tupN ws)).bind few = some (natD ws) := few_nat (by omega)
      simp [hofs]
      refine wp_lcmm (fun x => .bl (hitB m ws x)) (fun x hx => ?_) ?_
      · simp [hwf]
        refine wp_lcNm (fun w => .bl (x.testBit (m - 1 - w))) (fun w hw => ?_) ?_
        · have := set_at (s := st) (x := x) (chs_lt m k ws hws w hw)
          simp [this]
        · have := any_map (s := st) (xs := ws) (f := fun w => x.testBit (m - 1 - w))
          simp [this, hitB]
      · have := all_map (s := st) (xs := out) (f := hitB m ws)
        simp only [this]
        unfold hitG hitA
        cases hh : out.all (hitB m ws) <;> simp
    · exact ⟨rfl, hd⟩
    · obtain ⟨b, c, d, rfl⟩ := he
      simp
      exact List.findSome?_eq_none_iff.mp hd
  · show _ = (firstH m out).getD .non ∧ _
    unfold firstH
    rw [hd]
    exact ⟨rfl, rfl⟩
  · obtain ⟨a, b, c, d, rfl⟩ := he
    simp
    unfold firstH
    rw [hd]
    rfl

/-! the law's own search -/
def keyH (ws : List Nat) : D := .tup [.int (ws.length : Int), tupN ws]
def wOf (m mask : Nat) : List Nat := (List.range m).filter fun w => mask.testBit (m - 1 - w)
def allC (m : Nat) : List (List Nat) := (List.range (m + 1)).flatMap (chs m)
def kLt (a b : List Nat) : Bool := PySem.W.dataLt (toP (keyH a)) (toP (keyH b))
theorem allC_ord : ∀ m : _root_.Fin 5, (allC m.val).Pairwise (fun a b => kLt a b = true ∧ kLt b a = false) := by decide +kernel
theorem allC_irr : ∀ m : _root_.Fin 5, ∀ a ∈ allC m.val, kLt a a = false := by decide +kernel
theorem allC_w : ∀ m : _root_.Fin 5, (∀ a ∈ allC m.val, ∃ k : _root_.Fin 16, k.val < 2 ^ m.val ∧ wOf m.val k.val = a) ∧ ∀ k : _root_.Fin 16, k.val < 2 ^ m.val → wOf m.val k.val ∈ allC m.val := by decide +kernel
theorem mask_hit : ∀ m : _root_.Fin 5, ∀ k x : _root_.Fin 16, k.val < 2 ^ m.val → x.val < 2 ^ m.val → hitB m.val (wOf m.val k.val) x.val = decide (x.val &&& k.val ≠ 0) := by decide +kernel
theorem full_hit : ∀ m : _root_.Fin 5, (List.range m.val) ∈ allC m.val ∧ ∀ x : _root_.Fin 16, x.val < 2 ^ m.val → x.val ≠ 0 → hitB m.val (List.range m.val) x.val = true := by decide +kernel
end T46
end
section
set_option Elab.async false
set_option linter.all false
set_option maxRecDepth 100000
set_option maxHeartbeats 4000000
namespace T46
open PySem PySem.Spec PyProof.Rows L2 Nb M46
variable {n m : Nat} {st : Sto}
theorem findSome_flat {α β γ : Type} {f : α → List β} {g : β → Option γ} : ∀ {l : List α}, (l.flatMap f).findSome? g = l.findSome? fun k => (f k).findSome? g
  | [] => rfl
  | a :: l => by
    rw [List.flatMap_cons, List.findSome?_append, List.findSome?_cons, findSome_flat (l := l)]
    cases (f a).findSome? g <;> rfl
theorem findSome_if {α γ : Type} {p : α → Bool} {g : α → γ} : ∀ {l : List α}, (l.findSome? fun a => if p a = true then some (g a) else none) = (l.find? p).map g
  | [] => rfl
  | a :: l => by
    rw [List.findSome?_cons, List.find?_cons]
    cases h : p a <;> simp [findSome_if (l := l)]
theorem firstH_eq {out : List Nat} : firstH m out = ((allC m).find? (hitA m out)).map tupN := by
  rw [← findSome_if]
  exact findSome_flat.symm
theorem hits_spec (h1 : 1 ≤ m) (hm : m ≤ 4) {out : List Nat} (hl : ∀ x ∈ out, x < 2 ^ m ∧ x ≠ 0) : ∃ z, firstH m out = some (tupN z) ∧ z ∈ allC m ∧ hitA m out z = true ∧ ∀ y ∈ allC m, hitA m out y = true → y = z ∨ (kLt z y = true ∧ kLt y z = false) := by
  have hp : 2 ^ m ≤ 16 := Nat.pow_le_pow_right (n := 2) (by decide) hm
  obtain ⟨f1, f2⟩ := full_hit ⟨m, by omega⟩
  have hf : hitA m out (List.range m) = true := by
    unfold hitA
    rw [List.all_eq_true]
    intro x hx
    exact f2 ⟨x, by have := (hl x hx).1; omega⟩ (hl x hx).1 (hl x hx).2
  cases hz : (allC m).find? (hitA m out) with
  | none =>
    rw [List.find?_eq_none] at hz
    exact absurd hf (hz _ f1)
  | some z =>
    obtain ⟨p1, as, bs, e, p2⟩ := List.find?_eq_some_iff_append.mp hz
    refine ⟨z, by rw [firstH_eq, hz]; rfl, by rw [e]; simp, p1, fun y hy hh => ?_⟩
    rw [e] at hy
    have hord : (allC m).Pairwise (fun a b => kLt a b = true ∧ kLt b a = false) := allC_ord ⟨m, by omega⟩
    rw [e] at hord
    rcases List.mem_append.mp hy with hy | hy
    · have := p2 y hy
      rw [hh] at this; cases this
    · rcases List.mem_cons.mp hy with rfl | hy
      · exact .inl rfl
      · have := (List.pairwise_append.mp hord).2.1
        exact .inr ((List.pairwise_cons.mp this).1 y hy)
theorem minF_is {x : List Nat} {xs : List (List Nat)} {z : List Nat} (hz : z ∈ x :: xs) (hi : kLt z z = false) (h : ∀ y ∈ x :: xs, y = z ∨ (kLt z y = true ∧ kLt y z = false)) : minF (keyH x) (xs.map keyH) = keyH z := by
  induction xs generalizing x with
  | nil => rw [List.mem_singleton.mp hz]; rfl
  | cons y xs ih =>
    have e : minF (keyH x) ((y :: xs).map keyH) = minF (keyH (if kLt y x = true then y else x)) (xs.map keyH) := by
      unfold minF kLt
      rw [List.map_cons, List.foldl_cons]
      split <;> rfl
    rw [e]
    have hx := h x List.mem_cons_self
    have hy := h y (List.mem_cons_of_mem _ List.mem_cons_self)
    by_cases hlt : kLt y x = true
    · rw [if_pos hlt]
      refine ih ?_ fun w hw => h w (List.mem_cons_of_mem _ hw)
      rcases List.mem_cons.mp hz with e | hz
      · subst e
        rcases hy with rfl | ⟨_, q⟩
        · exact List.mem_cons_self
        · rw [hlt] at q; cases q
      · exact hz
    · rw [if_neg hlt]
      refine ih ?_ fun w hw => h w (by
        rcases List.mem_cons.mp hw with rfl | hw
        · exact List.mem_cons_self
        · exact List.mem_cons_of_mem _ (List.mem_cons_of_mem _ hw))
      rcases List.mem_cons.mp hz with e | hz
      · subst e; exact List.mem_cons_self
      · rcases List.mem_cons.mp hz with e | hz
        · subst e
          rcases hx with rfl | ⟨q, _⟩
          · exact List.mem_cons_self
          · exact absurd q hlt
        · exact List.mem_cons_of_mem _ hz
theorem toPs_nat : ∀ {ws : List Nat}, toPs (natD ws) = (ws.map fun w : Nat => (w : Int)).map .int
  | [] => rfl
  | w :: ws => by
    show toP (.int (w : Int)) :: toPs (natD ws) = _
    rw [toPs_nat (ws := ws)]; rfl
theorem alike_nats : ∀ {a b : List Int}, PySem.W.alikeAll (a.map .int) (b.map .int) = true
  | [], [] => rfl
  | [], _ :: _ => rfl
  | _ :: _, [] => rfl
  | _ :: a, _ :: b => by
    rw [List.map_cons, List.map_cons]
    unfold PySem.W.alikeAll
    rw [alike_nats (a := a) (b := b)]; rfl
theorem key_like {a b : List Nat} : PySem.W.alike (toP (keyH a)) (toP (keyH b)) = true := by
  show (true && (PySem.W.alikeAll (toPs (natD a)) (toPs (natD b)) && true)) = true
  rw [toPs_nat, toPs_nat, alike_nats]; rfl
theorem key_ok {a : List Nat} : okD (keyH a) = true ∧ depD (keyH a) = 2 := by
  unfold keyH tupN natD
  constructor
  · simp only [okD, okDs, okDs_ints, Bool.and_true]
  · simp only [depD, depDs, depDs_ints]; rfl
theorem min_keys {s : Sto} {xs : List (List Nat)} {z : List Nat} (hz : z ∈ xs) (hi : kLt z z = false) (h : ∀ y ∈ xs, y = z ∨ (kLt z y = true ∧ kLt y z = false)) : biD s .min1 [.lst (xs.map keyH)] = some (keyH z) := by
  cases xs with
  | nil => cases hz
  | cons x xs =>
    have e1 : asInts ((x :: xs).map keyH) = none := rfl
    show (match asInts ((x :: xs).map keyH) with
      | some ns => if ns.isEmpty = true then none else some (D.int (minI ns))
      | none => minD1 ((x :: xs).map keyH)) = _
    rw [e1]
    show (if likeD (keyH x :: xs.map keyH) = true then some (minF (keyH x) (xs.map keyH)) else none) = _
    have hl : likeD (keyH x :: xs.map keyH) = true := by
      unfold likeD
      rw [List.all_eq_true]
      intro a ha
      obtain ⟨y, hy, rfl⟩ : ∃ y ∈ x :: xs, a = keyH y := by
        obtain ⟨y, hy, e⟩ := List.mem_map.mp (show a ∈ (x :: xs).map keyH from ha)
        exact ⟨y, hy, e.symm⟩
      obtain ⟨k1, k2⟩ := key_ok (a := y)
      rw [k1, k2]
      simp only [Bool.true_and, Bool.and_eq_true]
      refine ⟨⟨by decide, rfl⟩, ?_⟩
      rw [List.all_eq_true]
      intro b hb
      obtain ⟨w, hw, rfl⟩ : ∃ w ∈ x :: xs, b = keyH w := by
        obtain ⟨y, hy, e⟩ := List.mem_map.mp (show b ∈ (x :: xs).map keyH from hb)
        exact ⟨y, hy, e.symm⟩
      exact key_like
    rw [if_pos hl, minF_is hz hi h]
theorem tab5 {s : Sto} {w : Nat} (hm : m ≤ 4) (hw : w < m) : idxD s (.lst [.int 16, .int 8, .int 4, .int 2, .int 1]) (.int (5 - (m : Int) + (w : Int))) = some (.int (two (m - 1 - w) : Int)) := by
  rcases (show m = 1 ∨ m = 2 ∨ m = 3 ∨ m = 4 by omega) with rfl | rfl | rfl | rfl <;>
  rcases (show w = 0 ∨ w = 1 ∨ w = 2 ∨ w = 3 by omega) with rfl | rfl | rfl | rfl <;> first | (exfalso; omega) | rfl
theorem tab6 {s : Sto} (hm : m ≤ 5) : idxD s (.lst [.int 1, .int 2, .int 4, .int 8, .int 16, .int 32]) (.int (m : Int)) = some (.int (two m : Int)) := by
  rcases (show m = 0 ∨ m = 1 ∨ m = 2 ∨ m = 3 ∨ m = 4 ∨ m = 5 by omega) with rfl | rfl | rfl | rfl | rfl | rfl <;> rfl
def maskP (out : List Nat) (k : Nat) : Bool := decide ((out.filter fun x => decide (x &&& k = 0)) = [])
theorem c_l_hits (hn : 1 ≤ n) (h1 : 1 ≤ m) (hm : m ≤ 4) {out : List Nat} (hl : ∀ x ∈ out, x < 2 ^ m ∧ x ≠ 0) (hol : out.length ≤ 256) : C n "_law_hits" [.int (m : Int), rowD out] st = .ok ((firstH m out).getD .non) st := by
  obtain ⟨n, rfl, hn2⟩ := succ_of hn
  rw [C, u_l_hits, ← wpR_eq, wpR_outR]
  obtain ⟨z, hz1, hz2, hz3, hz4⟩ := hits_spec h1 hm hl
  rw [hz1]
  have hp := two_le (m := m) (by omega)
  have hp16 : 2 ^ m ≤ 16 := Nat.pow_le_pow_right (n := 2) (by decide) hm
  have hof : (itemsD (rowD out)).bind few = some (natD out) := few_nat (by omega)
  unfold i_l_hits
  rw [w_scons]
  simp [-w_scons, isOwn, big_eq]
  rw [w_scons, w_for]
  simp [-w_scons, tab6 (show m ≤ 5 by omega), big_eq, rng_nat (show two m ≤ 1000000 by omega)]
  refine wp_forR (fun i e s => s = st ∧ ∃ a b c d, e = [.va (.int (m : Int)), .va (rowD out), .ow (.lst ((((List.range i).filter (maskP out)).map (wOf m)).map keyH)), a, b, c, d]) ⟨rfl, _, _, _, _, rfl⟩ (fun i e s hi hI => ?_) fun e s hI => ?_
  · obtain ⟨rfl, a, b, c, d, rfl⟩ := hI
    refine ⟨_, rfl, ?_⟩
    obtain ⟨fs, hfs⟩ : ∃ fs, fs = (((List.range i).filter (maskP out)).map (wOf m)) := ⟨_, rfl⟩
    have hfl : fs.length ≤ 256 := by
      rw [hfs, List.length_map]
      exact Nat.le_trans (List.length_filter_le _ _) (by rw [List.length_range]; omega)
    have hnext : (((List.range (i + 1)).filter (maskP out)).map (wOf m)) = if maskP out i = true then fs ++ [wOf m i] else fs := by
      rw [List.range_succ, List.filter_append, List.map_append, ← hfs, List.filter_cons]
      split <;> simp
    rw [hnext, ← hfs]
    rw [w_scons]
    simp [-w_scons, hof]
    refine wp_lcNf (fun x => decide (x &&& i = 0)) (fun x hx => ?_) ?_
    · obtain ⟨w, hw⟩ : ∃ w, w = x &&& i := ⟨_, rfl⟩
      have hband : binD .band (.int (x : Int)) (.int (i : Int)) = some (.int (w : Int)) := by rw [hw]; exact band_nat
      rw [← hw]
      simp [hband]
      by_cases hw0 : w = 0
      · simp [hw0]
      · have : ¬ (w : Int) = 0 := by omega
        simp [hw0]
    have heq : ∀ s, cmpD s .eq (.lst (natD (out.filter fun x => decide (x &&& i = 0)))) (.lst []) = some (maskP out i) := fun s => eq_nilL
    simp [-w_scons, heq, big_eq]
    cases hmp : maskP out i with
    | false => simp
    | true =>
      simp [-w_scons]
      rw [w_scons]
      simp [-w_scons, rng_nat (show m ≤ 1000000 by omega)]
      refine wp_lcNf (fun w => i.testBit (m - 1 - w)) (fun w hw => ?_) ?_
      · have hw := List.mem_range.mp hw
        have ht := fun s => tab5 (s := s) hm hw
        obtain ⟨k, hk⟩ : ∃ k, k = i &&& two (m - 1 - w) := ⟨_, rfl⟩
        have hk0 : k = 0 ↔ i.testBit (m - 1 - w) = false := by rw [hk]; exact and_two
        have hband : binD .band (.int (i : Int)) (.int (two (m - 1 - w) : Int)) = some (.int (k : Int)) := by rw [hk]; exact band_nat
        simp [ht, hband, big_eq]
        cases hb : i.testBit (m - 1 - w) with
        | false => simp [hk0.mpr hb]
        | true =>
          have : ¬ k = 0 := fun e => by rw [hk0.mp e] at hb; cases hb
          simp [this]
      · have e1 : natD ((List.range m).filter fun w => i.testBit (m - 1 - w)) = natD (wOf m i) := rfl
        rw [e1]
        simp [big_eq, natD_len, keyH, tupN]
        omega
  · obtain ⟨rfl, a, b, c, d, rfl⟩ := hI
    have hmm : ∀ k, k < 2 ^ m → (maskP out k = true ↔ hitA m out (wOf m k) = true) := fun k hk => by
      unfold maskP hitA
      rw [decide_eq_true_eq, List.filter_eq_nil_iff, List.all_eq_true]
      refine forall_congr' fun x => ?_
      refine imp_congr_right fun hx => ?_
      have := mask_hit ⟨m, by omega⟩ ⟨k, by omega⟩ ⟨x, by have := (hl x hx).1; omega⟩ hk (hl x hx).1
      rw [this]
      simp
    have hmin := min_keys (s := s) (xs := (((List.range (two m)).filter (maskP out)).map (wOf m))) (z := z) ?_ (allC_irr ⟨m, by omega⟩ z hz2) fun y hy => ?_
    · have h1' : idxD s (keyH z) (.int 1) = some (tupN z) := atI_cast (xs := [D.int (z.length : Int), tupN z]) (i := 1)
      have hmin' : biD s .min1 [.lst (List.map (keyH ∘ wOf m) ((List.range (two m)).filter (maskP out)))] = some (keyH z) := by rw [← List.map_map]; exact hmin
      simp [hmin', h1']
    · obtain ⟨k, hk1, hk2⟩ := (allC_w ⟨m, by omega⟩).1 z hz2
      refine List.mem_map.mpr ⟨k.val, List.mem_filter.mpr ⟨List.mem_range.mpr hk1, ?_⟩, hk2⟩
      rw [hmm _ hk1, hk2]; exact hz3
    · obtain ⟨k, hk, rfl⟩ := List.mem_map.mp hy
      obtain ⟨hk1, hk2⟩ := List.mem_filter.mp hk
      have hk1 : k < 2 ^ m := List.mem_range.mp hk1
      exact hz4 _ ((allC_w ⟨m, by omega⟩).2 ⟨k, by omega⟩ hk1) ((hmm k hk1).mp hk2)
end T46
end
section
set_option linter.all false
/-! M46b: as few parts as possible (plain Lean) -/
namespace M46
/-- any two meet -/
def putP (parts : List (List Nat)) (at' x : Nat) : List (List Nat) := parts.take at' ++ [parts.getD at' [] ++ [x]] ++ parts.drop (at' + 1)
def pw : List Nat → List (List Nat) → Nat → Option (List (List Nat))
  | [], parts, _ => some parts
  | x :: r, parts, most => (List.range (min (parts.length + 1) most)).findSome? fun i =>
      if (parts.getD i []).all (fun y => y &&& x != 0) = true then pw r (putP parts i x) most else none
/-- colours below k, none twice where two do not meet -/
def Col (k : Nat) (xs : List Nat) (c : Nat → Nat) : Prop := (∀ x ∈ xs, c x < k) ∧ ∀ x ∈ xs, ∀ y ∈ xs, x &&& y = 0 → c x ≠ c y
theorem putP_len {parts : List (List Nat)} {i x : Nat} (h : i ≤ parts.length) : (putP parts i x).length = max parts.length (i + 1) := by
  unfold putP
  simp only [List.length_append, List.length_take, List.length_drop, List.length_cons, List.length_nil]
  omega
theorem putP_get {parts : List (List Nat)} {i x j : Nat} (h : i ≤ parts.length) : (putP parts i x).getD j [] = if j = i then parts.getD i [] ++ [x] else parts.getD j [] := by
  unfold putP
  have hl : (parts.take i).length = i := by rw [List.length_take]; omega
  simp only [List.getD_eq_getElem?_getD]
  by_cases h1 : j < i
  · rw [List.getElem?_append_left (by simp; omega), List.getElem?_append_left (by omega), List.getElem?_take_of_lt h1, if_neg (by omega)]
  · by_cases h2 : j = i
    · subst h2
      rw [if_pos rfl, List.getElem?_append_left (by simp; omega), List.getElem?_append_right (by omega), hl]
      simp
    · rw [if_neg h2, List.getElem?_append_right (by simp; omega), List.getElem?_drop]
      simp only [List.length_append, hl, List.length_cons, List.length_nil]
      congr 2
      omega
theorem putP_flat {parts : List (List Nat)} {i x : Nat} (h : i ≤ parts.length) : (putP parts i x).flatten.Perm (x :: parts.flatten) := by
  unfold putP
  by_cases hi : i < parts.length
  · have e : parts = parts.take i ++ (parts.getD i [] :: parts.drop (i + 1)) := by
      rw [List.getD_eq_getElem?_getD, List.getElem?_eq_getElem hi, Option.getD_some, List.getElem_cons_drop, List.take_append_drop]
    conv => rhs; rw [e]
    simp only [List.flatten_append, List.flatten_cons, List.flatten_nil, List.append_nil, List.append_assoc, List.cons_append, List.nil_append]
    refine List.Perm.trans (List.Perm.append_left _ ?_) List.perm_middle
    exact List.perm_middle
  · have e1 : parts.take i = parts := List.take_of_length_le (by omega)
    have e2 : parts.drop (i + 1) = [] := List.drop_of_length_le (by omega)
    have e3 : parts.getD i [] = [] := by rw [List.getD_eq_getElem?_getD, List.getElem?_eq_none (by omega)]; rfl
    rw [e1, e2, e3]
    simp only [List.flatten_append, List.flatten_cons, List.flatten_nil, List.append_nil, List.nil_append]
    exact List.perm_append_singleton x _
theorem findSome_some {α β : Type} {f : α → Option β} {l : List α} {a : α} (h : a ∈ l) (hf : (f a).isSome = true) : (l.findSome? f).isSome = true := by
  rw [List.findSome?_isSome_iff]
  exact ⟨a, h, hf⟩
/-- what is found -/
structure Good (parts : List (List Nat)) (most : Nat) (all : List Nat) : Prop where
  len : parts.length ≤ most
  ne : ∀ p ∈ parts, p ≠ []
  meet : ∀ p ∈ parts, ∀ x ∈ p, ∀ y ∈ p, x &&& y ≠ 0
  perm : parts.flatten.Perm all
theorem mem_getD {parts : List (List Nat)} {p : List Nat} : p ∈ parts → ∃ i, i < parts.length ∧ parts.getD i [] = p := fun h => by
  obtain ⟨i, hi⟩ := List.getElem?_of_mem h
  exact ⟨i, (List.getElem?_eq_some_iff.mp hi).1, by rw [List.getD_eq_getElem?_getD, hi]; rfl⟩
theorem getD_mem {parts : List (List Nat)} {i : Nat} (h : i < parts.length) : parts.getD i [] ∈ parts := by
  rw [List.getD_eq_getElem?_getD, List.getElem?_eq_getElem h]
  exact List.getElem_mem h
theorem pw_good : ∀ (r : List Nat) (parts : List (List Nat)) (most : Nat) (all ps : List (List Nat)) (done : List Nat), (∀ x ∈ r, x ≠ 0) → Good parts most done → pw r parts most = some ps → Good ps most (done ++ r)
  | [], parts, most, _, ps, done, _, hg, h => by
    unfold pw at h; cases h
    rw [List.append_nil]; exact hg
  | x :: r, parts, most, all, ps, done, h0, hg, h => by
    unfold pw at h
    obtain ⟨i, hi, hs⟩ := List.exists_of_findSome?_eq_some h
    rw [List.mem_range] at hi
    split at hs
    · rename_i hall
      have hi1 : i ≤ parts.length := by omega
      have hi2 : i < most := by omega
      have g2 : Good (putP parts i x) most (done ++ [x]) := by
        refine ⟨by rw [putP_len hi1]; have := hg.len; omega, fun p hp => ?_, fun p hp => ?_, ?_⟩
        · obtain ⟨j, hj, rfl⟩ := mem_getD hp
          rw [putP_get hi1]
          split
          · simp
          · rename_i hne
            rw [putP_len hi1] at hj
            exact hg.ne _ (getD_mem (by omega))
        · obtain ⟨j, hj, rfl⟩ := mem_getD hp
          rw [putP_get hi1]
          split
          · intro a ha b hb
            have hx := h0 x List.mem_cons_self
            have hm : ∀ y ∈ parts.getD i [], y &&& x ≠ 0 := fun y hy => by
              have := List.all_eq_true.mp hall y hy
              simpa using this
            rcases List.mem_append.mp ha with ha | ha <;> rcases List.mem_append.mp hb with hb | hb
            · by_cases hlt : i < parts.length
              · exact hg.meet _ (getD_mem hlt) a ha b hb
              · rw [List.getD_eq_getElem?_getD, List.getElem?_eq_none (by omega)] at ha
                exact absurd ha (by simp)
            · rw [List.mem_singleton.mp hb]; exact hm a ha
            · rw [List.mem_singleton.mp ha, Nat.and_comm]; exact hm b hb
            · rw [List.mem_singleton.mp ha, List.mem_singleton.mp hb, Nat.and_self]; exact hx
          · rename_i hne
            rw [putP_len hi1] at hj
            exact hg.meet _ (getD_mem (by omega))
        · exact (putP_flat hi1).trans ((List.Perm.cons x hg.perm).trans (List.perm_append_singleton x done).symm)
      have := pw_good r _ most all ps (done ++ [x]) (fun y hy => h0 y (List.mem_cons_of_mem _ hy)) g2 hs
      rw [List.append_assoc] at this
      exact this
    · cases hs
theorem inj_le : ∀ {k n : Nat} {f : Nat → Nat}, (∀ j, j < n → f j < k) → (∀ i j, i < n → j < n → f i = f j → i = j) → n ≤ k
  | 0, n, f, h1, _ => by
    cases n with
    | zero => omega
    | succ n => exact absurd (h1 0 (by omega)) (by omega)
  | k + 1, n, f, h1, h2 => by
    by_cases hex : ∃ j, j < n ∧ f j = k
    · obtain ⟨j, hj, e⟩ := hex
      have := inj_le (k := k) (n := n - 1) (f := fun i => if i < j then f i else f (i + 1)) (fun i hi => by
        have := h1 i (by omega)
        have h3 := h1 (i + 1) (by omega)
        skip
        split
        · have : f i ≠ k := fun q => by have := h2 i j (by omega) hj (by omega); omega
          omega
        · have : f (i + 1) ≠ k := fun q => by have := h2 (i + 1) j (by omega) hj (by omega); omega
          omega) fun a b ha hb q => by
        skip
        split at q <;> split at q
        · exact h2 a b (by omega) (by omega) q
        · have := h2 a (b + 1) (by omega) (by omega) q; omega
        · have := h2 (a + 1) b (by omega) (by omega) q; omega
        · have := h2 (a + 1) (b + 1) (by omega) (by omega) q; omega
      omega
    · have := inj_le (k := k) (n := n) (f := f) (fun i hi => by
        have := h1 i hi
        have : f i ≠ k := fun q => hex ⟨i, hi, q⟩
        omega) h2
      omega
/-- a search that is not in vain -/
theorem pw_some : ∀ (r : List Nat) (parts : List (List Nat)) (most : Nat) (c g : Nat → Nat), Col most (parts.flatten ++ r) c → (∀ i, i < parts.length → (∀ x ∈ parts.getD i [], c x = g i) ∧ g i < most) →
    (∀ i j, i < parts.length → j < parts.length → g i = g j → i = j) → (pw r parts most).isSome = true
  | [], parts, most, c, g, _, _, _ => rfl
  | x :: r, parts, most, c, g, hc, hg, hi => by
    unfold pw
    have hx : c x < most := hc.1 x (by simp)
    -- the part of x's colour, or a new one
    have hpl : ∀ k, (∀ i, i < parts.length → g i < k) → k ≤ most → True := fun _ _ _ => trivial
    have go : ∀ i, i ≤ parts.length → i < most → (i < parts.length → g i = c x) → (i = parts.length → ∀ j, j < parts.length → g j ≠ c x) →
        (if (parts.getD i []).all (fun y => y &&& x != 0) = true then pw r (putP parts i x) most else none).isSome = true := by
      intro i h1 h2 h3 h4
      have hall : (parts.getD i []).all (fun y => y &&& x != 0) = true := by
        rw [List.all_eq_true]
        intro y hy
        by_cases hlt : i < parts.length
        · have := (hg i hlt).1 y hy
          have hm : y ∈ parts.flatten := List.mem_flatten.mpr ⟨_, getD_mem hlt, hy⟩
          have hne := hc.2 y (List.mem_append_left _ hm) x (by simp)
          have : ¬ (y &&& x = 0) := fun e => hne e (by rw [this, h3 hlt])
          simpa using this
        · rw [List.getD_eq_getElem?_getD, List.getElem?_eq_none (by omega)] at hy
          exact absurd hy (by simp)
      rw [if_pos hall]
      let g' : Nat → Nat := fun j => if j = i then c x else g j
      refine pw_some r (putP parts i x) most c g' ⟨fun y hy => hc.1 y ?_, fun y hy z hz => hc.2 y ?_ z ?_⟩ (fun j hj => ?_) fun j k hj hk e => ?_
      · have := ((putP_flat h1).append_right r).mem_iff.mp hy
        simp only [List.cons_append, List.mem_cons, List.mem_append] at this
        simp only [List.mem_append, List.mem_cons]
        rcases this with e | e | e
        · exact .inr (.inl e)
        · exact .inl e
        · exact .inr (.inr e)
      · have := ((putP_flat h1).append_right r).mem_iff.mp hy
        simp only [List.cons_append, List.mem_cons, List.mem_append] at this
        simp only [List.mem_append, List.mem_cons]
        rcases this with e | e | e
        · exact .inr (.inl e)
        · exact .inl e
        · exact .inr (.inr e)
      · have := ((putP_flat h1).append_right r).mem_iff.mp hz
        simp only [List.cons_append, List.mem_cons, List.mem_append] at this
        simp only [List.mem_append, List.mem_cons]
        rcases this with e | e | e
        · exact .inr (.inl e)
        · exact .inl e
        · exact .inr (.inr e)
      · rw [putP_len h1] at hj
        rw [putP_get h1]
        by_cases e : j = i
        · subst e
          simp only [g', if_pos]
          refine ⟨fun y hy => ?_, hx⟩
          rcases List.mem_append.mp hy with hy | hy
          · by_cases hlt : j < parts.length
            · rw [(hg j hlt).1 y hy, h3 hlt]
            · rw [List.getD_eq_getElem?_getD, List.getElem?_eq_none (by omega)] at hy
              exact absurd hy (by simp)
          · rw [List.mem_singleton.mp hy]
        · simp only [g', if_neg e]
          exact hg j (by omega)
      · rw [putP_len h1] at hj hk
        simp only [g'] at e
        by_cases e1 : j = i <;> by_cases e2 : k = i
        · rw [e1, e2]
        · rw [if_pos e1, if_neg e2] at e
          exfalso
          by_cases hlt : i < parts.length
          · have := hi i k hlt (by omega) (by rw [h3 hlt]; exact e)
            omega
          · exact h4 (by omega) k (by omega) e.symm
        · rw [if_neg e1, if_pos e2] at e
          exfalso
          by_cases hlt : i < parts.length
          · have := hi i j hlt (by omega) (by rw [h3 hlt]; exact e.symm)
            omega
          · exact h4 (by omega) j (by omega) e
        · rw [if_neg e1, if_neg e2] at e
          exact hi j k (by omega) (by omega) e
    by_cases hex : ∃ i, i < parts.length ∧ g i = c x
    · obtain ⟨i, h1, h2⟩ := hex
      have him : i < most := by
        -- the parts' colours are distinct and below most
        have : parts.length ≤ most := inj_le (fun j hj => (hg j hj).2) hi
        omega
      exact findSome_some (List.mem_range.mpr (show i < min (parts.length + 1) most by omega)) (go i (by omega) him (fun _ => h2) fun e => by omega)
    · have hne : ∀ j, j < parts.length → g j ≠ c x := fun j hj e => hex ⟨j, hj, e⟩
      have hlt : parts.length < most := by
        have : parts.length + 1 ≤ most := inj_le (f := fun j => if j = parts.length then c x else g j) (fun j hj => by
          split
          · exact hx
          · exact (hg j (by omega)).2) fun j k hj hk e => by
          by_cases e1 : j = parts.length <;> by_cases e2 : k = parts.length
          · omega
          · rw [if_pos e1, if_neg e2] at e; exact absurd e.symm (hne k (by omega))
          · rw [if_neg e1, if_pos e2] at e; exact absurd e (hne j (by omega))
          · rw [if_neg e1, if_neg e2] at e; exact hi j k (by omega) (by omega) e
        omega
      exact findSome_some (List.mem_range.mpr (show parts.length < min (parts.length + 1) most by omega)) (go parts.length (Nat.le_refl _) hlt (fun h => absurd h (by omega)) fun _ => hne)
end M46
end
section
set_option linter.all false
/-! M46d: how many parts (plain Lean) -/
namespace M46
/-- colours exist -/
def HasCol (k : Nat) (xs : List Nat) : Prop := ∃ c : Nat → Nat, (∀ x ∈ xs, c x < k) ∧ ∀ x ∈ xs, ∀ y ∈ xs, x &&& y = 0 → c x ≠ c y
def low3 (x : Nat) : Nat := if x &&& 1 ≠ 0 then 0 else if x &&& 2 ≠ 0 then 1 else if x &&& 4 ≠ 0 then 2 else 3
/-- by the lowest wire, but w: for four wires -/
def low4 (w x : Nat) : Nat := 
  let f := fun j => if j < w then j else j + 1
  if x.testBit (f 0) then 0 else if x.testBit (f 1) then 1 else if x.testBit (f 2) then 2 else 3
theorem low3_ok : ∀ x y : Fin 8, x.val ≠ 0 → y.val ≠ 0 → low3 x.val < 3 ∧ (x.val &&& y.val = 0 → low3 x.val ≠ low3 y.val) := by decide +kernel
theorem low4_ok : ∀ w : Fin 4, ∀ x y : Fin 16, x.val ≠ 0 → y.val ≠ 0 → x.val ≠ 2 ^ w.val → y.val ≠ 2 ^ w.val → low4 w.val x.val < 3 ∧ (x.val &&& y.val = 0 → low4 w.val x.val ≠ low4 w.val y.val) := by decide +kernel
def low44 (x : Nat) : Nat := if x.testBit 0 then 0 else if x.testBit 1 then 1 else if x.testBit 2 then 2 else 3
theorem low44_ok : ∀ x y : Fin 16, x.val ≠ 0 → y.val ≠ 0 → low44 x.val < 4 ∧ (x.val &&& y.val = 0 → low44 x.val ≠ low44 y.val) := by decide +kernel
theorem col3 {xs : List Nat} (h : ∀ x ∈ xs, x ≠ 0 ∧ x < 8) : HasCol 3 xs :=
  ⟨low3, fun x hx => (low3_ok ⟨x, (h x hx).2⟩ ⟨x, (h x hx).2⟩ (h x hx).1 (h x hx).1).1, fun x hx y hy e => (low3_ok ⟨x, (h x hx).2⟩ ⟨y, (h y hy).2⟩ (h x hx).1 (h y hy).1).2 e⟩
theorem col34 {xs : List Nat} (h : ∀ x ∈ xs, x ≠ 0 ∧ x < 16) {w : Nat} (hw : w < 4) (hn : 2 ^ w ∉ xs) : HasCol 3 xs := by
  have ne : ∀ x ∈ xs, x ≠ 2 ^ w := fun x hx e => hn (e ▸ hx)
  exact ⟨low4 w, fun x hx => (low4_ok ⟨w, hw⟩ ⟨x, (h x hx).2⟩ ⟨x, (h x hx).2⟩ (h x hx).1 (h x hx).1 (ne x hx) (ne x hx)).1, fun x hx y hy e => (low4_ok ⟨w, hw⟩ ⟨x, (h x hx).2⟩ ⟨y, (h y hy).2⟩ (h x hx).1 (h y hy).1 (ne x hx) (ne y hy)).2 e⟩
theorem col44 {xs : List Nat} (h : ∀ x ∈ xs, x ≠ 0 ∧ x < 16) : HasCol 4 xs :=
  ⟨low44, fun x hx => (low44_ok ⟨x, (h x hx).2⟩ ⟨x, (h x hx).2⟩ (h x hx).1 (h x hx).1).1, fun x hx y hy e => (low44_ok ⟨x, (h x hx).2⟩ ⟨y, (h y hy).2⟩ (h x hx).1 (h y hy).1).2 e⟩
theorem no3 {xs : List Nat} (h1 : 1 ∈ xs) (h2 : 2 ∈ xs) (h4 : 4 ∈ xs) (h8 : 8 ∈ xs) : ¬ HasCol 3 xs := fun ⟨c, hc, hd⟩ => by
  have a1 := hc 1 h1
  have a2 := hc 2 h2
  have a4 := hc 4 h4
  have a8 := hc 8 h8
  have d1 := hd 1 h1 2 h2 (by decide)
  have d2 := hd 1 h1 4 h4 (by decide)
  have d3 := hd 1 h1 8 h8 (by decide)
  have d4 := hd 2 h2 4 h4 (by decide)
  have d5 := hd 2 h2 8 h8 (by decide)
  have d6 := hd 4 h4 8 h8 (by decide)
  omega
theorem HasCol.mono {k j : Nat} {xs : List Nat} (h : HasCol k xs) (hk : k ≤ j) : HasCol j xs := by
  obtain ⟨c, h1, h2⟩ := h
  exact ⟨c, fun x hx => Nat.lt_of_lt_of_le (h1 x hx) hk, h2⟩
/-- the least number of colours -/
def Chi (k : Nat) (xs : List Nat) : Prop := HasCol k xs ∧ ∀ j, j < k → ¬ HasCol j xs
theorem Chi.uniq {k j : Nat} {xs : List Nat} (a : Chi k xs) (b : Chi j xs) : k = j := by
  rcases Nat.lt_trichotomy k j with h | h | h
  · exact absurd a.1 (b.2 k h)
  · exact h
  · exact absurd b.1 (a.2 j h)
theorem Chi.of {k : Nat} {xs : List Nat} (a : HasCol (k + 1) xs) (b : ¬ HasCol k xs) : Chi (k + 1) xs := ⟨a, fun j hj h => b (h.mono (by omega))⟩
theorem chi0 : Chi 0 [] := ⟨⟨fun _ => 0, fun _ h => absurd h (by simp), fun _ h => absurd h (by simp)⟩, fun _ h => absurd h (by omega)⟩
theorem no0 {x : Nat} {xs : List Nat} (h : x ∈ xs) : ¬ HasCol 0 xs := fun ⟨c, h1, _⟩ => absurd (h1 x h) (by omega)
theorem no1 {x y : Nat} {xs : List Nat} (h : x ∈ xs) (h' : y ∈ xs) (e : x &&& y = 0) : ¬ HasCol 1 xs := fun ⟨c, h1, h2⟩ => by
  have := h1 x h; have := h1 y h'; have := h2 x h y h' e; omega
theorem col1 {xs : List Nat} (h : ∀ x ∈ xs, ∀ y ∈ xs, x &&& y ≠ 0) : HasCol 1 xs := ⟨fun _ => 0, fun _ _ => Nat.zero_lt_one, fun x hx y hy e => absurd e (h x hx y hy)⟩
end M46
end
section
set_option Elab.async false
set_option linter.all false
set_option maxRecDepth 100000
set_option maxHeartbeats 4000000
namespace T46
open PySem PySem.Spec PyProof.Rows L2 Nb M46
variable {n m : Nat} {st : Sto}
theorem slc_fromL {xs : List D} {k : Nat} : slcD (.lst xs) (some (k : Int)) none = some (.lst (xs.drop k)) := by
  have := slc_fromT (xs := xs) (k := k)
  have e : Nb.cutD xs (some (k : Int)) none = xs.drop k := by
    have := Option.some.inj this
    injection this
  show some (D.lst (Nb.cutD xs _ _)) = _
  rw [e]
theorem slc_toL {xs : List D} {k : Nat} : slcD (.lst xs) none (some (k : Int)) = some (.lst (xs.take k)) := by
  have := slc_toT (xs := xs) (k := k)
  have e : Nb.cutD xs none (some (k : Int)) = xs.take k := by
    have := Option.some.inj this
    injection this
  show some (D.lst (Nb.cutD xs _ _)) = _
  rw [e]
theorem add_lsts {xs ys : List D} (h : xs.length + ys.length ≤ 1000) : binD .add (.lst xs) (.lst ys) = some (.lst (xs ++ ys)) := by
  show (if xs.length + ys.length ≤ big then some (D.lst (xs ++ ys)) else none) = _
  rw [if_pos (by rw [big_eq]; omega)]
def partsD (ps : List (List Nat)) : D := .lst (ps.map fun p => .lst (natD p))
theorem min2_nat {s : Sto} {a b : Nat} : biD s .min2 [.int (a : Int), .int (b : Int)] = some (.int ((min a b : Nat) : Int)) := by
  show some (D.int (if (b : Int) < (a : Int) then (b : Int) else (a : Int))) = _
  congr 2
  by_cases h : b < a
  · rw [if_pos (by omega), Nat.min_eq_right (by omega)]
  · rw [if_neg (by omega), Nat.min_eq_left (by omega)]
theorem len_flat {parts : List (List Nat)} {p : List Nat} (h : p ∈ parts) : p.length ≤ parts.flatten.length := by
  induction parts with
  | nil => cases h
  | cons q parts ih =>
    rw [List.flatten_cons, List.length_append]
    rcases List.mem_cons.mp h with rfl | h
    · omega
    · have := ih h; omega
theorem c_parts_within : ∀ (rest : List Nat) (parts : List (List Nat)) (most n : Nat) (st : Sto), rest.length + 1 ≤ n → parts.length + rest.length ≤ 300 → parts.flatten.length + rest.length ≤ 300 → most ≤ 300 →
    C n "parts_within" [rowD rest, partsD parts, .int (most : Int)] st = .ok (((pw rest parts most).map partsD).getD .non) st
  | [], parts, most, n, st, hn, _, _, _ => by
    obtain ⟨n, rfl, hn2⟩ := succ_of hn
    rw [C, u_parts_within, ← wpR_eq, wpR_outR]
    have : cmpD st .eq (rowD []) (.lst []) = some true := by rw [eq_nilL]; rfl
    simp [i_parts_within, this, big_eq, pw]
  | x :: r, parts, most, n, st, hn, hl1, hl2, hl3 => by
    obtain ⟨n, rfl, hn2⟩ := succ_of hn
    rw [C, u_parts_within, ← wpR_eq, wpR_outR]
    have hnn : cmpD st .eq (rowD (x :: r)) (.lst []) = some false := by rw [eq_nilL]; rfl
    have hlp : ∀ s, biD s .len [partsD parts] = some (.int (parts.length : Int)) := fun s => by unfold partsD; simp
    obtain ⟨k, hk⟩ : ∃ k, k = min (parts.length + 1) most := ⟨_, rfl⟩
    have hk1 : k ≤ parts.length + 1 := by omega
    have hrg := rng_nat (show k ≤ 1000000 by omega)
    have hmin : ∀ s, biD s .min2 [.int ((parts.length : Int) + 1), .int (most : Int)] = some (.int (k : Int)) := fun s => by
      rw [hk]; exact min2_nat (a := parts.length + 1) (b := most)
    unfold i_parts_within
    rw [w_scons]
    simp [-w_scons, hnn, big_eq]
    rw [w_scons, w_for]
    simp [-w_scons, hlp, hmin, hrg]
    rw [natD_map]
    have hx0 : ∀ s, idxD s (rowD (x :: r)) (.int 0) = some (.int (x : Int)) := fun s => idx_natD (i := 0)
    have hrest : slcD (rowD (x :: r)) (some 1) none = some (rowD r) := slc_fromL (xs := natD (x :: r)) (k := 1)
    have hpw : pw (x :: r) parts most = (List.range k).findSome? fun i => if (parts.getD i []).all (fun y => y &&& x != 0) = true then pw r (putP parts i x) most else none := by rw [hk]; rfl
    have hg : ((List.range k).findSome? fun i => if (parts.getD i []).all (fun y => y &&& x != 0) = true then (pw r (putP parts i x) most).map partsD else none) = (pw (x :: r) parts most).map partsD := by
      rw [hpw]
      generalize List.range k = l
      induction l with
      | nil => rfl
      | cons i l ih =>
        rw [List.findSome?_cons, List.findSome?_cons]
        by_cases hb : ((parts.getD i []).all fun y => y &&& x != 0) = true
        · rw [if_pos hb, if_pos hb]
          cases pw r (putP parts i x) most with
          | none => exact ih
          | some ps => rfl
        · rw [if_neg hb, if_neg hb]; exact ih
    rw [← hg]
    refine wp_forFind (fun i => if (parts.getD i []).all (fun y => y &&& x != 0) = true then (pw r (putP parts i x) most).map partsD else none) (fun e => ∃ a b c d, e = [.va (rowD (x :: r)), .va (partsD parts), .va (.int (most : Int)), a, b, c, d]) _ _ ⟨_, _, _, _, rfl⟩ (fun i hi e he => ?_) (fun d hd => ?_) fun hd e he => ?_
    · obtain ⟨a, b, c, d, rfl⟩ := he
      have hi : i < k := List.mem_range.mp hi
      have hi1 : i ≤ parts.length := by omega
      refine ⟨_, rfl, ?_⟩
      obtain ⟨part, hpart⟩ : ∃ part, part = parts.getD i [] := ⟨_, rfl⟩
      have hpl : part.length ≤ 300 := by
        by_cases hlt : i < parts.length
        · have := len_flat (getD_mem hlt)
          rw [← hpart] at this
          omega
        · rw [hpart, List.getD_eq_getElem?_getD, List.getElem?_eq_none (by omega)]; simp
      rw [← hpart]
      -- the part as a value
      have hpv : ∀ (P : Po), (∀ s', s' = st → wpS (exss pk.T (clN pk.T pk.defs n) (.cons (.iff (.bi .all (.cons (.lc [5] (.nm 5) (.seq (.var 4)) .no (.cmp .ne (.bin .band (.var 5) (.idx (.var 0) (.kon (.int 0)))) (.kon (.int 0)))) .nil)) (.cons (.asg (.nm 6) (.cal "parts_within" (.cons (.slc (.var 0) (.so (.kon (.int 1))) .no) (.cons (.bin .add (.bin .add (.slc (.var 1) .no (.so (.var 3))) (.lst (.cons (.bin .add (.var 4) (.lst (.cons (.idx (.var 0) (.kon (.int 0))) .nil))) .nil))) (.slc (.var 1) (.so (.bin .add (.var 3) (.kon (.int 1)))) .no)) (.cons (.var 2) .nil))) [])) (.cons (.iff (.cmp .isn (.var 6) (.kon .non)) (.cons (.ret (.var 6)) .nil) .nil) .nil)) .nil) .nil)
          [.va (rowD (x :: r)), .va (partsD parts), .va (.int (most : Int)), .va (.int (i : Int)), .va (.lst (natD part)), c, d] s') P) →
          wpS (exss pk.T (clN pk.T pk.defs n) (.cons (.asg (.nm 4) (.ite (.cmp .lt (.var 3) (.bi .len (.cons (.var 1) .nil))) (.idx (.var 1) (.var 3)) (.lst .nil))) (.cons (.iff (.bi .all (.cons (.lc [5] (.nm 5) (.seq (.var 4)) .no (.cmp .ne (.bin .band (.var 5) (.idx (.var 0) (.kon (.int 0)))) (.kon (.int 0)))) .nil)) (.cons (.asg (.nm 6) (.cal "parts_within" (.cons (.slc (.var 0) (.so (.kon (.int 1))) .no) (.cons (.bin .add (.bin .add (.slc (.var 1) .no (.so (.var 3))) (.lst (.cons (.bin .add (.var 4) (.lst (.cons (.idx (.var 0) (.kon (.int 0))) .nil))) .nil))) (.slc (.var 1) (.so (.bin .add (.var 3) (.kon (.int 1)))) .no)) (.cons (.var 2) .nil))) [])) (.cons (.iff (.cmp .isn (.var 6) (.kon .non)) (.cons (.ret (.var 6)) .nil) .nil) .nil)) .nil) .nil))
          [.va (rowD (x :: r)), .va (partsD parts), .va (.int (most : Int)), .va (.int (i : Int)), b, c, d] st) P := fun P hP => by
        rw [w_scons]
        by_cases hlt : i < parts.length
        · have hix : idxD st (partsD parts) (.int (i : Int)) = some (.lst (natD part)) := by
            show atI _ _ = _
            rw [atI_cast, List.getElem?_map, List.getElem?_eq_getElem hlt, hpart, List.getD_eq_getElem?_getD, List.getElem?_eq_getElem hlt]
            rfl
          simp [-w_scons, hlp, hlt, hix]
          exact hP st rfl
        · have he : part = [] := by rw [hpart, List.getD_eq_getElem?_getD, List.getElem?_eq_none (by omega)]; rfl
          subst he
          simp [-w_scons, hlp, hlt, big_eq]
          exact hP st rfl
      obtain ⟨bb, hbb⟩ : ∃ bb, bb = part.all fun y => y &&& x != 0 := ⟨_, rfl⟩
      rw [← hbb]
      refine hpv _ fun s' hs' => ?_
      subst hs'
      rw [w_scons]
      simp [-w_scons, few_nat (show part.length ≤ 1000000 by omega)]
      refine wp_lcNm (fun y => .bl (y &&& x != 0)) (fun y hy => ?_) ?_
      · obtain ⟨w, hw⟩ : ∃ w, w = y &&& x := ⟨_, rfl⟩
        have hband : binD .band (.int (y : Int)) (.int (x : Int)) = some (.int (w : Int)) := by rw [hw]; exact band_nat
        rw [← hw]
        simp [hx0, hband]
        by_cases h0 : w = 0
        · simp [h0]
        · have : ¬ (w : Int) = 0 := by omega
          simp [h0, this]
      have hall : ∀ s, biD s .all [.lst (part.map fun y => D.bl (y &&& x != 0))] = some (.bl (part.all fun y => y &&& x != 0)) := fun s => all_map
      rw [← hbb] at hall
      simp [-w_scons, hall]
      have hput : putP parts i x = parts.take i ++ [part ++ [x]] ++ parts.drop (i + 1) := by unfold putP; rw [← hpart]
      cases bb with
      | false => simp
      | true =>
        have e1 : slcD (partsD parts) none (some (i : Int)) = some (partsD (parts.take i)) := by unfold partsD; rw [slc_toL, List.map_take]
        have e2 : slcD (partsD parts) (some ((i : Int) + 1)) none = some (partsD (parts.drop (i + 1))) := by
          unfold partsD
          rw [show (i : Int) + 1 = ((i + 1 : Nat) : Int) by omega, slc_fromL, List.map_drop]
        have e3 : binD .add (.lst (natD part)) (.lst [.int (x : Int)]) = some (.lst (natD (part ++ [x]))) := by
          rw [add_lsts (by rw [natD_len]; simp; omega), natD_snoc]
        have e4 : binD .add (partsD (parts.take i)) (.lst [.lst (natD (part ++ [x]))]) = some (partsD (parts.take i ++ [part ++ [x]])) := by
          unfold partsD
          rw [add_lsts (by simp; omega), List.map_append]; rfl
        have e5 : binD .add (partsD (parts.take i ++ [part ++ [x]])) (partsD (parts.drop (i + 1))) = some (partsD (putP parts i x)) := by
          rw [hput]
          unfold partsD
          rw [add_lsts (by simp; omega), ← List.map_append]
        have hpl2 : (putP parts i x).length ≤ parts.length + 1 := by rw [putP_len hi1]; omega
        have hfl2 : (putP parts i x).flatten.length = parts.flatten.length + 1 := by rw [(putP_flat hi1).length_eq]; rfl
        have ih := c_parts_within r (putP parts i x) most n s' (by rw [List.length_cons] at hn2; omega) (by rw [List.length_cons] at hl1; omega) (by rw [List.length_cons] at hl2; omega) hl3
        simp [hrest, e1, e2, hx0, e3, e4, e5, big_eq, ih]
        cases hq : pw r (putP parts i x) most with
        | none => simp [cmpD, Nb.isNon]
        | some ps => simp [cmpD, Nb.isNon, partsD]
    · exact ⟨by rw [hd]; rfl, rfl⟩
    · obtain ⟨a, b, c, d, rfl⟩ := he
      rw [hd]
      simp
end T46
end
section
set_option Elab.async false
set_option linter.all false
set_option maxRecDepth 100000
set_option maxHeartbeats 4000000
namespace T46
open PySem PySem.Spec PyProof.Rows L2 Nb M46
variable {n m : Nat} {st : Sto}
theorem col_iff {k : Nat} {xs : List Nat} {c : Nat → Nat} : Col k xs c ↔ (∀ x ∈ xs, c x < k) ∧ ∀ x ∈ xs, ∀ y ∈ xs, x &&& y = 0 → c x ≠ c y := Iff.rfl
theorem good_nil {k : Nat} : Good [] k [] := ⟨Nat.zero_le _, fun _ h => absurd h (by simp), fun _ h => absurd h (by simp), List.Perm.refl _⟩
theorem good_col_aux {ps : List (List Nat)} {k : Nat} {all : List Nat} (g : Good ps k all) {x y : Nat} (hx : x ∈ all) (hy : y ∈ all) (e : x &&& y = 0) (h : (ps.findIdx fun p => decide (x ∈ p)) = ps.findIdx fun p => decide (y ∈ p)) : False := by
  have hx' := g.perm.mem_iff.mpr hx
  obtain ⟨p, hp, hxp⟩ := List.mem_flatten.mp hx'
  have hlt := List.findIdx_lt_length_of_exists (xs := ps) (p := fun p => decide (x ∈ p)) ⟨p, hp, by simpa using hxp⟩
  have hlt2 : (ps.findIdx fun p => decide (y ∈ p)) < ps.length := by rw [← h]; exact hlt
  have a1 := List.findIdx_getElem (w := hlt)
  have a2 := List.findIdx_getElem (w := hlt2)
  have a1 := of_decide_eq_true a1
  have a2 := of_decide_eq_true a2
  simp only [h] at a1
  exact g.meet _ (List.getElem_mem hlt2) x a1 y a2 e
theorem good_col {ps : List (List Nat)} {k : Nat} {all : List Nat} (g : Good ps k all) : HasCol ps.length all := by
  refine ⟨fun x => ps.findIdx fun p => decide (x ∈ p), fun x hx => ?_, fun x hx y hy e h => ?_⟩
  rotate_left
  · replace h : (ps.findIdx fun p => decide (x ∈ p)) = ps.findIdx fun p => decide (y ∈ p) := h
    exact good_col_aux g hx hy e h
  · have := g.perm.mem_iff.mpr hx
    obtain ⟨p, hp, hxp⟩ := List.mem_flatten.mp this
    exact List.findIdx_lt_length_of_exists ⟨p, hp, by simpa using hxp⟩
theorem pw_iff {out : List Nat} (h0 : ∀ x ∈ out, x ≠ 0) {k : Nat} : (pw out [] k).isSome = true ↔ HasCol k out := by
  constructor
  · intro h
    obtain ⟨ps, hps⟩ := Option.isSome_iff_exists.mp h
    have := pw_good out [] k [] ps [] h0 ⟨Nat.zero_le _, fun _ h => absurd h (by simp), fun _ h => absurd h (by simp), List.Perm.refl _⟩ hps
    exact (good_col this).mono this.len
  · rintro ⟨c, h1, h2⟩
    exact pw_some out [] k c c ⟨by simpa using h1, by simpa using h2⟩ (fun i hi => absurd hi (by simp)) fun i j hi => absurd hi (by simp)
/-! sorted parts -/
def srtN (p : List Nat) : List Nat := (sortBy id (p.map fun x : Nat => (x : Int))).map Int.toNat
theorem srtN_cast {p : List Nat} : (srtN p).map (fun x : Nat => (x : Int)) = sortBy id (p.map fun x : Nat => (x : Int)) := by
  unfold srtN
  rw [List.map_map]
  have : ∀ i ∈ sortBy id (p.map fun x : Nat => (x : Int)), ((fun x : Nat => (x : Int)) ∘ Int.toNat) i = i := fun i hi => by
    obtain ⟨x, _, rfl⟩ := List.mem_map.mp ((sortBy_perm id _).mem_iff.mp hi)
    simp
  rw [List.map_congr_left this, List.map_id']
theorem srtN_perm {p : List Nat} : (srtN p).Perm p := by
  have h := (sortBy_perm id (p.map fun x : Nat => (x : Int))).map Int.toNat
  rw [List.map_map] at h
  have : p.map (Int.toNat ∘ fun x : Nat => (x : Int)) = p := by
    rw [List.map_congr_left (g := id) (fun x _ => by simp)]; simp
  rw [this] at h
  exact h
theorem srtN_asc {p : List Nat} (h : p.Nodup) : (srtN p).Pairwise (· < ·) := by
  have h1 := sortBy_pw id (p.map fun x : Nat => (x : Int))
  rw [← srtN_cast, List.pairwise_map] at h1
  have nd : (srtN p).Nodup := srtN_perm.nodup_iff.mpr h
  rw [List.nodup_iff_pairwise_ne] at nd
  refine (h1.and nd).imp fun {a b} h => ?_
  have := h.1
  have := h.2
  simp only [id] at *
  omega
theorem srt_natD {s : Sto} {p : List Nat} : biD s .srt [.lst (natD p)] = some (.lst (natD (srtN p))) := by
  have e : sortD (natD p) = some (natD (srtN p)) := by
    unfold natD sortD
    rw [asI_map, srtN_cast]
  simp [biD, lstD, derefD, e]
/-- the program's parts -/
structure Parts (out : List Nat) (k : Nat) (ps : List (List Nat)) : Prop where
  chi : Chi k out
  len : ps.length = k
  good : Good ps k out
theorem parts_len {out : List Nat} {k : Nat} {ps : List (List Nat)} (P : Parts out k ps) : ps.length ≤ out.length ∧ ∀ p ∈ ps, p.length ≤ out.length := by
  have h2 : ∀ p ∈ ps, p.length ≤ out.length := fun p hp => by
    rw [← P.good.perm.length_eq]; exact len_flat hp
  refine ⟨?_, h2⟩
  rw [← P.good.perm.length_eq]
  have hne := P.good.ne
  clear P h2
  induction ps with
  | nil => simp
  | cons p ps ih =>
    rw [List.flatten_cons, List.length_append, List.length_cons]
    have := List.length_pos_iff.mpr (hne p List.mem_cons_self)
    have := ih fun q hq => hne q (List.mem_cons_of_mem _ hq)
    omega
theorem fewest (hm : m ≤ 4) {out : List Nat} (hl : ∀ x ∈ out, x < 2 ^ m ∧ x ≠ 0) : ∃ k ps, pw out [] k = some ps ∧ k ≤ 4 ∧ (∀ j, j < k → pw out [] j = none) ∧ Parts out k ps := by
  have hp16 : 2 ^ m ≤ 16 := Nat.pow_le_pow_right (n := 2) (by decide) hm
  have h0 : ∀ x ∈ out, x ≠ 0 := fun x hx => (hl x hx).2
  have h4 : HasCol 4 out := col44 fun x hx => ⟨(hl x hx).2, by have := (hl x hx).1; omega⟩
  have key : ∃ k, k ≤ 4 ∧ HasCol k out ∧ ∀ j, j < k → ¬ HasCol j out := by
    have : ∀ d k, k + d = 4 → (∀ j, j < k → ¬ HasCol j out) → ∃ k, k ≤ 4 ∧ HasCol k out ∧ ∀ j, j < k → ¬ HasCol j out := by
      intro d
      induction d with
      | zero => intro k hk h; exact ⟨k, by omega, by rw [show k = 4 by omega]; exact h4, h⟩
      | succ d ih =>
        intro k hk h
        by_cases hc : HasCol k out
        · exact ⟨k, by omega, hc, h⟩
        · refine ih (k + 1) (by omega) fun j hj => ?_
          rcases Nat.lt_succ_iff_lt_or_eq.mp hj with hj | rfl
          · exact h j hj
          · exact hc
    exact this 4 0 rfl fun j hj => absurd hj (by omega)
  obtain ⟨k, hk, hc, hn⟩ := key
  obtain ⟨ps, hps⟩ := Option.isSome_iff_exists.mp ((pw_iff h0).mpr hc)
  have g := pw_good out [] k [] ps [] h0 ⟨Nat.zero_le _, fun _ h => absurd h (by simp), fun _ h => absurd h (by simp), List.Perm.refl _⟩ hps
  have g : Good ps k out := g
  refine ⟨k, ps, hps, hk, fun j hj => ?_, ⟨hc, hn⟩, ?_, g⟩
  · cases e : pw out [] j with
    | none => rfl
    | some q => exact absurd ((pw_iff h0).mp (by rw [e]; rfl)) (hn j hj)
  · rcases Nat.lt_or_ge ps.length k with h | h
    · exact absurd (good_col g) (hn _ h)
    · exact Nat.le_antisymm g.len h
theorem is_none {s : Sto} {o : Option (List (List Nat))} : cmpD s .is ((o.map partsD).getD .non) .non = some o.isNone := by
  cases o <;> rfl
theorem c_fewest_parts (hn : out.length + 2 ≤ n) (hm : m ≤ 4) (hl : ∀ x ∈ out, x < 2 ^ m ∧ x ≠ 0) (hol : out.length ≤ 200) {k : Nat} {ps : List (List Nat)} (hps : pw out [] k = some ps) (hk : k ≤ 4) (hno : ∀ j, j < k → pw out [] j = none) (P : Parts out k ps) :
    C n "fewest_parts" [rowD out] st = .ok (partsD (ps.map srtN)) st := by
  obtain ⟨n, rfl, hn2⟩ := succ_of hn
  rw [C, u_fewest_parts, ← wpR_eq, wpR_outR]
  have hc : ∀ (j : Nat) s, j ≤ 300 → C n "parts_within" [rowD out, .lst [], .int (j : Int)] s = .ok (((pw out [] j).map partsD).getD .non) s := fun j s hj =>
    c_parts_within out [] j n s (by omega) (by simp; omega) (by simp; omega) hj
  have hc0 := fun s => hc 0 s (by omega)
  unfold i_fewest_parts
  rw [w_scons]
  have hc0' : ∀ s, C n "parts_within" [rowD out, .lst [], .int 0] s = .ok (((pw out [] 0).map partsD).getD .non) s := hc0
  simp [-w_scons, big_eq, hc0']
  rw [w_scons, w_whl]
  refine wp_while (fun e s => s = st ∧ ∃ (j : Nat) (c : Sl), j ≤ k ∧ e = [.va (rowD out), .va (((pw out [] j).map partsD).getD .non), .va (.int (j : Int)), c]) (fun e s => match e with | [_, _, .va (.int j), _] => k - j.toNat | _ => 0) (fun e s hI => ?_) fuelW _ _ ⟨rfl, 0, _, Nat.zero_le _, rfl⟩ ?_
  · obtain ⟨rfl, j, c, hj, rfl⟩ := hI
    have hcm := fun s => is_none (s := s) (o := pw out [] j)
    simp [hcm]
    cases hq : pw out [] j with
    | none =>
      have hjk : j < k := by
        rcases Nat.lt_or_ge j k with h | h
        · exact h
        · rw [show j = k by omega, hps] at hq; cases hq
      have hc1 := fun s => hc (j + 1) s (by omega)
      have hc1' : ∀ s, C n "parts_within" [rowD out, .lst [], .int ((j : Int) + 1)] s = .ok (((pw out [] (j + 1)).map partsD).getD .non) s := hc1
      have hb : Nb.binI .add (j : Int) 1 = some ((j : Int) + 1) := rfl
      simp [hc1', hb, big_eq]
      refine ⟨⟨j + 1, by omega, ?_⟩, ?_⟩
      · simp
      · show k - ((j : Int) + 1).toNat < k - (j : Int).toNat
        omega
    | some q =>
      have hjk : j = k := by
        rcases Nat.lt_or_ge j k with h | h
        · rw [hno j h] at hq; cases hq
        · omega
      subst hjk
      rw [hps] at hq
      cases hq
      have hlen := parts_len P
      have hitp : (itemsD (partsD ps)).bind few = some (ps.map fun p => D.lst (natD p)) := by
        show few (ps.map fun p => D.lst (natD p)) = _
        exact few_of (by rw [List.length_map, big_eq]; omega)
      simp [hitp]
      refine wp_lcmm (fun p => .lst (natD (srtN p))) (fun p hp => ?_) ?_
      · simp [srt_natD]
      · unfold partsD
        rw [List.map_map]
        exact ⟨rfl, rfl⟩
  · show k - 0 < fuelW
    unfold fuelW
    omega
theorem outs_lt {r : List Nat} (h1 : 1 ≤ m) (hm : m ≤ 4) (h0 : 0 ∉ outs m r) : (outs m r).length ≤ 15 ∧ ∀ x ∈ outs m r, x < 2 ^ m ∧ x ≠ 0 := by
  have hp16 : 2 ^ m ≤ 16 := Nat.pow_le_pow_right (n := 2) (by decide) hm
  refine ⟨?_, fun x hx => ⟨(outs_mem.mp hx).1, fun e => h0 (e ▸ hx)⟩⟩
  have : (outs m r).length < (List.range (2 ^ m)).length := by
    unfold outs
    rw [List.length_filter_lt_length_iff_exists]
    refine ⟨0, List.mem_range.mpr (Nat.two_pow_pos m), fun h => h0 ?_⟩
    unfold outs
    exact List.mem_filter.mpr ⟨List.mem_range.mpr (Nat.two_pow_pos m), h⟩
  rw [List.length_range] at this
  omega
theorem c_meeting_parts (h1 : 1 ≤ m) (hm : m ≤ 4) {r : List Nat} (hr : Row m r) : (0 ∈ outs m r → ∀ n st, 18 ≤ n → C n "meeting_parts" [grpD m r] st = .ok .non st) ∧
    (0 ∉ outs m r → ∃ k ps, Parts (outs m r) k ps ∧ ∀ n st, 18 ≤ n → C n "meeting_parts" [grpD m r] st = .ok (.tup (ps.map fun p => grpD m (srtN p))) st) := by
  have hm8 : m ≤ 8 := by omega
  have in0 : ∀ s, cmpD s .inn (.int 0) (rowD (outs m r)) = some (decide (0 ∈ outs m r)) := fun s => in_row (s := s) (i := 0)
  constructor
  · intro h0 n st hn
    obtain ⟨n, rfl, hn2⟩ := succ_of hn
    rw [C, u_meeting_parts, ← wpR_eq, wpR_outR]
    obtain ⟨i0, _, hg0⟩ := grp_first (s := st) (m := m) hr.ne
    simp [i_meeting_parts, lot_ok h1 hm8 hr (show 6 ≤ n by omega), c_outside_of (show 2 ≤ n by omega) h1 hm8 hr, hg0, len_setT, c_settings_of (show 3 ≤ n by omega) (show m ≤ 6 by omega), big_eq, in0, h0]
  · intro h0
    obtain ⟨hol, hl⟩ := outs_lt h1 hm h0
    obtain ⟨k, ps, a1, a2, a3, P⟩ := fewest hm hl
    refine ⟨k, ps, P, fun n st hn => ?_⟩
    obtain ⟨n, rfl, hn2⟩ := succ_of hn
    rw [C, u_meeting_parts, ← wpR_eq, wpR_outR]
    obtain ⟨i0, _, hg0⟩ := grp_first (s := st) (m := m) hr.ne
    have hf := fun s => c_fewest_parts (n := n) (st := s) (by omega) hm hl (by omega) a1 a2 a3 P
    have hlen := parts_len P
    have hitp : (itemsD (partsD (ps.map srtN))).bind few = some ((ps.map srtN).map fun p => D.lst (natD p)) := by
      show few ((ps.map srtN).map fun p => D.lst (natD p)) = _
      exact few_of (by rw [List.length_map, List.length_map, big_eq]; omega)
    simp [i_meeting_parts, lot_ok h1 hm8 hr (show 6 ≤ n by omega), c_outside_of (show 2 ≤ n by omega) h1 hm8 hr, hg0, len_setT, c_settings_of (show 3 ≤ n by omega) (show m ≤ 6 by omega), big_eq, in0, h0, hf, hitp, -List.map_map]
    refine wp_lcmm (fun p => grpD m p) (fun p hp => ?_) ?_
    · obtain ⟨q, hq, rfl⟩ := List.mem_map.mp hp
      have hql : (srtN q).length ≤ 15 := by rw [srtN_perm.length_eq]; exact Nat.le_trans (hlen.2 q hq) hol
      have hqx : ∀ x ∈ srtN q, x < 2 ^ m := fun x hx => (hl x (P.good.perm.mem_iff.mp (List.mem_flatten.mpr ⟨q, hq, srtN_perm.mem_iff.mp hx⟩))).1
      simp [few_nat (show (srtN q).length ≤ 1000000 by omega)]
      refine wp_lcNm (fun i => setT m i) (fun i hi => ?_) ?_
      · simp [all_at (hqx i hi)]
      · simp [grpD]
    · simp [List.map_map]
end T46
end
section
set_option linter.all false
/-! M46c: two sides by walking (plain Lean) -/
namespace M46
abbrev AL := List (Nat × Nat)
def lk (s : AL) (x : Nat) : Option Nat := (s.find? fun p => p.1 == x).map (·.2)
def stepB (one other : Nat) (s : AL) : AL := match lk s one with
  | some v => if (lk s other).isNone = true then s ++ [(other, 1 - v)] else s
  | none => s
def apart (out : List Nat) (x : Nat) : List Nat := out.filter fun y => x &&& y == 0
def oneB (out : List Nat) (s : AL) (one : Nat) : AL := (apart out one).foldl (fun s other => stepB one other s) s
def roundB (out : List Nat) (s : AL) : AL := out.foldl (oneB out) s
def iterB (out : List Nat) : Nat → AL → AL
  | 0, s => s
  | n + 1, s => iterB out n (roundB out s)
def startB (s : AL) (x : Nat) : AL := if (lk s x).isNone = true then s ++ [(x, 0)] else s
def phase (out : List Nat) (s : AL) (x : Nat) : AL := iterB out out.length (startB s x)
def sides (out : List Nat) : AL := out.foldl (phase out) []
theorem lk_app {s : AL} {y v x : Nat} (h : lk s y = none) : lk (s ++ [(y, v)]) x = if x = y then some v else lk s x := by
  unfold lk at *
  rw [List.find?_append]
  by_cases e : x = y
  · subst e
    have : s.find? (fun p => p.1 == x) = none := by simpa using h
    rw [this, if_pos rfl]
    simp
  · rw [if_neg e]
    cases s.find? (fun p => p.1 == x) with
    | none => simp [show ¬ y = x from fun q => e q.symm]
    | some p => simp
/-- grows only -/
def Le (s t : AL) : Prop := ∀ x v, lk s x = some v → lk t x = some v
theorem Le.refl (s : AL) : Le s s := fun _ _ h => h
theorem Le.trans {s t u : AL} (a : Le s t) (b : Le t u) : Le s u := fun x v h => b x v (a x v h)
theorem le_app {s : AL} {y v : Nat} (h : lk s y = none) : Le s (s ++ [(y, v)]) := fun x w hx => by
  rw [lk_app h]
  split
  · rename_i e; subst e; rw [h] at hx; cases hx
  · exact hx
theorem none_of {α : Type} {o : Option α} (h : o.isNone = true) : o = none := by cases o <;> simp_all
theorem le_step {one other : Nat} {s : AL} : Le s (stepB one other s) := by
  unfold stepB
  split
  · split
    · rename_i h; exact le_app (none_of h)
    · exact .refl _
  · exact .refl _
theorem le_foldl {α : Type} {f : AL → α → AL} (h : ∀ s a, Le s (f s a)) : ∀ (l : List α) (s : AL), Le s (l.foldl f s)
  | [], s => .refl s
  | a :: l, s => (h s a).trans (le_foldl h l (f s a))
theorem le_one {out : List Nat} {s : AL} {one : Nat} : Le s (oneB out s one) := le_foldl (fun s other => le_step) _ _
theorem le_round {out : List Nat} {s : AL} : Le s (roundB out s) := le_foldl (fun s one => le_one) _ _
theorem le_iter {out : List Nat} : ∀ (n : Nat) (s : AL), Le s (iterB out n s)
  | 0, s => .refl s
  | n + 1, s => le_round.trans (le_iter n _)
theorem le_start {s : AL} {x : Nat} : Le s (startB s x) := by
  unfold startB
  split
  · rename_i h; exact le_app (none_of h)
  · exact .refl _
theorem le_phase {out : List Nat} {s : AL} {x : Nat} : Le s (phase out s x) := le_start.trans (le_iter _ _)
/-- a property that each step keeps -/
theorem inv_foldl {α : Type} {P : AL → Prop} {f : AL → α → AL} : ∀ (l : List α) (s : AL), (∀ s a, a ∈ l → P s → P (f s a)) → P s → P (l.foldl f s)
  | [], s, _, h => h
  | a :: l, s, hf, h => inv_foldl l (f s a) (fun s b hb => hf s b (List.mem_cons_of_mem _ hb)) (hf s a List.mem_cons_self h)
theorem mem_apart {out : List Nat} {x y : Nat} : y ∈ apart out x ↔ y ∈ out ∧ x &&& y = 0 := by
  unfold apart
  simp [List.mem_filter]
theorem inv_round {P : AL → Prop} {out : List Nat} {s : AL} (hP : ∀ s one other, one ∈ out → other ∈ out → one &&& other = 0 → P s → P (stepB one other s)) (h : P s) : P (roundB out s) :=
  inv_foldl _ _ (fun s one ho h => inv_foldl _ _ (fun s other ht h => hP s one other ho (mem_apart.mp ht).1 (mem_apart.mp ht).2 h) h) h
theorem inv_iter {P : AL → Prop} {out : List Nat} (hP : ∀ s one other, one ∈ out → other ∈ out → one &&& other = 0 → P s → P (stepB one other s)) : ∀ (n : Nat) (s : AL), P s → P (iterB out n s)
  | 0, s, h => h
  | n + 1, s, h => inv_iter hP n _ (inv_round hP h)
/-- closed: what does not meet what is known is known -/
def Clo (out : List Nat) (s : AL) : Prop := ∀ x ∈ out, ∀ y ∈ out, x &&& y = 0 → (lk s x).isSome = true → (lk s y).isSome = true
/-- keys: nodup, among out -/
structure Keys (out : List Nat) (s : AL) : Prop where
  nd : (s.map (·.1)).Nodup
  sub : ∀ p ∈ s, p.1 ∈ out
  val : ∀ p ∈ s, p.2 = 0 ∨ p.2 = 1
theorem lk_mem {s : AL} {x v : Nat} (h : lk s x = some v) : (x, v) ∈ s := by
  unfold lk at h
  obtain ⟨p, hp, rfl⟩ := Option.map_eq_some_iff.mp h
  have h1 := List.mem_of_find?_eq_some hp
  have h2 := List.find?_some hp
  have : p.1 = x := by simpa using h2
  rw [← this]; exact h1
theorem lk_none {s : AL} {x : Nat} (h : lk s x = none) : x ∉ s.map (·.1) := by
  unfold lk at h
  have : s.find? (fun p => p.1 == x) = none := by simpa using h
  rw [List.find?_eq_none] at this
  intro hm
  obtain ⟨p, hp, rfl⟩ := List.mem_map.mp hm
  have := this p hp
  simp at this
theorem lk_isSome {s : AL} {x : Nat} : (lk s x).isSome = true ↔ x ∈ s.map (·.1) := by
  constructor
  · intro h
    obtain ⟨v, hv⟩ := Option.isSome_iff_exists.mp h
    exact List.mem_map.mpr ⟨_, lk_mem hv, rfl⟩
  · intro h
    cases e : lk s x with
    | some v => rfl
    | none => exact absurd h (lk_none e)
theorem Keys.app {out : List Nat} {s : AL} {y v : Nat} (k : Keys out s) (h : lk s y = none) (hy : y ∈ out) (hv : v = 0 ∨ v = 1) : Keys out (s ++ [(y, v)]) := by
  refine ⟨?_, fun p hp => ?_, fun p hp => ?_⟩
  · rw [List.map_append, List.map_cons, List.map_nil, List.nodup_append]
    refine ⟨k.nd, by simp, fun a ha b hb e => ?_⟩
    rw [List.mem_singleton.mp hb] at e
    subst e
    exact lk_none h ha
  · rcases List.mem_append.mp hp with hp | hp
    · exact k.sub p hp
    · rw [List.mem_singleton.mp hp]; exact hy
  · rcases List.mem_append.mp hp with hp | hp
    · exact k.val p hp
    · rw [List.mem_singleton.mp hp]; exact hv
theorem Keys.step {out : List Nat} {s : AL} {one other : Nat} (k : Keys out s) (ho : other ∈ out) : Keys out (stepB one other s) := by
  unfold stepB
  split
  · rename_i v hv
    split
    · rename_i h
      refine k.app (none_of h) ho ?_
      have := k.val _ (lk_mem hv)
      rcases this with e | e <;> (have e : v = _ := e) <;> subst e <;> simp
    · exact k
  · exact k
/-! the rounds are enough -/
theorem len_foldl {α : Type} {f : AL → α → AL} (h : ∀ s a, f s a = s ∨ s.length < (f s a).length) : ∀ (l : List α) (s : AL), l.foldl f s = s ∧ (∀ a ∈ l, f s a = s) ∨ s.length < (l.foldl f s).length
  | [], s => .inl ⟨rfl, fun _ h => absurd h (by simp)⟩
  | a :: l, s => by
    rw [List.foldl_cons]
    rcases h s a with e | e
    · rw [e]
      rcases len_foldl h l s with ⟨e1, e2⟩ | e1
      · refine .inl ⟨e1, fun b hb => ?_⟩
        rcases List.mem_cons.mp hb with rfl | hb
        · exact e
        · exact e2 b hb
      · exact .inr e1
    · rcases len_foldl h l (f s a) with ⟨e1, _⟩ | e1
      · rw [e1]; exact .inr e
      · exact .inr (Nat.lt_trans e e1)
theorem step_len {one other : Nat} {s : AL} : stepB one other s = s ∨ s.length < (stepB one other s).length := by
  unfold stepB
  split
  · split
    · right; simp
    · exact .inl rfl
  · exact .inl rfl
theorem one_len {out : List Nat} {s : AL} {one : Nat} : oneB out s one = s ∨ s.length < (oneB out s one).length := by
  rcases len_foldl (f := fun s other => stepB one other s) (fun s other => step_len) (apart out one) s with h | h
  · exact .inl h.1
  · exact .inr h
theorem round_len {out : List Nat} {s : AL} : (roundB out s = s ∧ Clo out s) ∨ s.length < (roundB out s).length := by
  rcases len_foldl (f := oneB out) (fun s one => one_len) out s with h | h
  · refine .inl ⟨h.1, fun x hx y hy hxy hs => ?_⟩
    have h1 := h.2 x hx
    rcases len_foldl (f := fun s other => stepB x other s) (fun s other => step_len) (apart out x) s with h2 | h2
    · have h3 := h2.2 y (mem_apart.mpr ⟨hy, hxy⟩)
      obtain ⟨v, hv⟩ := Option.isSome_iff_exists.mp hs
      unfold stepB at h3
      rw [hv] at h3
      dsimp only at h3
      cases e : lk s y with
      | some w => rfl
      | none =>
        exfalso
        rw [e] at h3
        simp at h3
    · rw [show (apart out x).foldl (fun s other => stepB x other s) s = s from h1] at h2
      exact absurd h2 (Nat.lt_irrefl _)
  · exact .inr h
theorem iter_fix {out : List Nat} {s : AL} (h : roundB out s = s) : ∀ n, iterB out n s = s
  | 0 => rfl
  | n + 1 => by unfold iterB; rw [h]; exact iter_fix h n
theorem iter_len {out : List Nat} : ∀ (n : Nat) (s : AL), Clo out (iterB out n s) ∨ s.length + n ≤ (iterB out n s).length
  | 0, s => .inr (Nat.le_refl _)
  | n + 1, s => by
    unfold iterB
    rcases round_len (out := out) (s := s) with ⟨e, c⟩ | h
    · rw [e, iter_fix e]; exact .inl c
    · rcases iter_len n (roundB out s) with c | h2
      · exact .inl c
      · right; omega
theorem keys_len {out : List Nat} {s : AL} (k : Keys out s) : s.length ≤ out.length := by
  have h1 : (s.map (·.1)).length ≤ out.length := by
    have hsub : s.map (·.1) ⊆ out := fun x hx => by
      obtain ⟨p, hp, rfl⟩ := List.mem_map.mp hx
      exact k.sub p hp
    exact nodup_len k.nd hsub
  simpa using h1
where
  nodup_len : ∀ {a b : List Nat}, a.Nodup → a ⊆ b → a.length ≤ b.length
    | [], _, _, _ => Nat.zero_le _
    | x :: a, b, hn, hs => by
      have hx := hs List.mem_cons_self
      have hn' := List.nodup_cons.mp hn
      have : a ⊆ b.erase x := fun y hy => by
        have h1 := hs (List.mem_cons_of_mem _ hy)
        have hne : y ≠ x := fun e => hn'.1 (e ▸ hy)
        exact (List.mem_erase_of_ne hne).mpr h1
      have h2 := nodup_len hn'.2 this
      rw [List.length_erase_of_mem hx] at h2
      have := List.length_pos_of_mem hx
      simp only [List.length_cons]
      omega
theorem keys_start {out : List Nat} {s : AL} {x : Nat} (k : Keys out s) (hx : x ∈ out) : Keys out (startB s x) := by
  unfold startB
  split
  · rename_i h; exact k.app (none_of h) hx (.inl rfl)
  · exact k
theorem start_has {s : AL} {x : Nat} : (lk (startB s x) x).isSome = true := by
  unfold startB
  split
  · rename_i h; rw [lk_app (none_of h), if_pos rfl]; rfl
  · rename_i h; cases e : lk s x <;> simp_all
theorem phase_keys {out : List Nat} {s : AL} {x : Nat} (k : Keys out s) (hx : x ∈ out) : Keys out (phase out s x) :=
  inv_iter (P := Keys out) (fun s one other _ h2 _ k => k.step h2) _ _ (keys_start k hx)
theorem phase_clo {out : List Nat} {s : AL} {x : Nat} (k : Keys out s) (hx : x ∈ out) : Clo out (phase out s x) := by
  rcases iter_len (out := out) out.length (startB s x) with c | h
  · exact c
  · have k2 := keys_len (phase_keys k hx)
    have hl : 0 < (startB s x).length := by
      have := lk_isSome.mp (start_has (s := s) (x := x))
      obtain ⟨p, hp, _⟩ := List.mem_map.mp this
      exact List.length_pos_of_mem hp
    unfold phase at k2
    omega
/-! with a colouring by 0 and 1: sides differ where they must -/
def Dif (out : List Nat) (s : AL) : Prop := ∀ x ∈ out, ∀ y ∈ out, x &&& y = 0 → ∀ v w, lk s x = some v → lk s y = some w → v ≠ w
/-- within a phase: the old ones stand, the new ones go with c -/
structure Ph (out : List Nat) (s0 : AL) (c : Nat → Nat) (f : Bool) (s : AL) : Prop where
  le : Le s0 s
  new : ∀ x v, lk s x = some v → lk s0 x = none → v = (if f = true then 1 - c x else c x)
theorem ph_step {out : List Nat} {s0 s : AL} {c : Nat → Nat} {f : Bool} {one other : Nat} (hc : ∀ x ∈ out, c x < 2) (hd : ∀ x ∈ out, ∀ y ∈ out, x &&& y = 0 → c x ≠ c y) (h0 : Clo out s0) (h1 : one ∈ out) (h2 : other ∈ out) (h3 : one &&& other = 0) (p : Ph out s0 c f s) : Ph out s0 c f (stepB one other s) := by
  unfold stepB
  split
  · rename_i v hv
    split
    · rename_i h
      have hn := none_of h
      refine ⟨p.le.trans (le_app hn), fun x w hx h4 => ?_⟩
      rw [lk_app hn] at hx
      split at hx
      · rename_i e
        subst e
        cases hx
        -- one is a new one
        have : lk s0 one = none := by
          cases e : lk s0 one with
          | none => rfl
          | some u =>
            have := h0 one h1 x h2 h3 (by rw [e]; rfl)
            rw [h4] at this; cases this
        have hv' := p.new one v hv this
        have d := hd one h1 x h2 h3
        have c1 := hc one h1
        have c2 := hc x h2
        cases f <;> simp at hv' ⊢ <;> omega
      · exact p.new x w hx h4
    · exact p
  · exact p
theorem phase_dif {out : List Nat} {s : AL} {x0 : Nat} {c : Nat → Nat} (hc : ∀ x ∈ out, c x < 2) (hd : ∀ x ∈ out, ∀ y ∈ out, x &&& y = 0 → c x ≠ c y) (hx0 : x0 ∈ out) (h0 : Clo out s) (h1 : Dif out s) : Dif out (phase out s x0) := by
  have p0 : Ph out s c (decide (c x0 = 1)) (startB s x0) := by
    unfold startB
    split
    · rename_i h
      have hn := none_of h
      refine ⟨le_app hn, fun x v hx h4 => ?_⟩
      rw [lk_app hn] at hx
      split at hx
      · rename_i e; subst e; cases hx
        have := hc x hx0
        split
        · rename_i h5; have := of_decide_eq_true h5; omega
        · rename_i h5; have : ¬ c x = 1 := fun q => h5 (decide_eq_true q); omega
      · rw [h4] at hx; cases hx
    · exact ⟨.refl _, fun x v hx h4 => by rw [h4] at hx; cases hx⟩
  have p := inv_iter (P := Ph out s c (decide (c x0 = 1))) (out := out) (fun s' one other h2 h3 h4 p => ph_step hc hd h0 h2 h3 h4 p) out.length _ p0
  intro x hx y hy hxy v w hv hw
  cases ex : lk s x with
  | some v0 =>
    have hys := h0 x hx y hy hxy (by rw [ex]; rfl)
    obtain ⟨w0, ey⟩ := Option.isSome_iff_exists.mp hys
    have e1 := p.le x v0 ex
    have e2 := p.le y w0 ey
    have e1 : lk (phase out s x0) x = some v0 := e1
    have e2 : lk (phase out s x0) y = some w0 := e2
    rw [hv] at e1; rw [hw] at e2; cases e1; cases e2
    exact h1 x hx y hy hxy v w ex ey
  | none =>
    have ey : lk s y = none := by
      cases e : lk s y with
      | none => rfl
      | some w0 =>
        have := h0 y hy x hx (by rw [Nat.and_comm]; exact hxy) (by rw [e]; rfl)
        rw [ex] at this; cases this
    have e1 := p.new x v hv ex
    have e2 := p.new y w hw ey
    have d := hd x hx y hy hxy
    have c1 := hc x hx
    have c2 := hc y hy
    split at e1 <;> split at e2 <;> first | omega | (rename_i a b; exact absurd a b) | (rename_i a b; exact absurd b a)
structure Sd (out : List Nat) (s : AL) : Prop where
  keys : Keys out s
  clo : Clo out s
theorem sides_all {out : List Nat} : Keys out (sides out) ∧ (∀ x ∈ out, (lk (sides out) x).isSome = true) := by
  have : ∀ (l : List Nat) (s : AL), (∀ x ∈ l, x ∈ out) → Keys out s → Keys out (l.foldl (phase out) s) ∧ (∀ x ∈ l, (lk (l.foldl (phase out) s) x).isSome = true) := by
    intro l
    induction l with
    | nil => exact fun s _ k => ⟨k, fun _ h => absurd h (by simp)⟩
    | cons a l ih =>
      intro s hl k
      have ha := hl a List.mem_cons_self
      obtain ⟨h1, h2⟩ := ih (phase out s a) (fun x hx => hl x (List.mem_cons_of_mem _ hx)) (phase_keys k ha)
      refine ⟨h1, fun x hx => ?_⟩
      rcases List.mem_cons.mp hx with rfl | hx
      · obtain ⟨v, hv⟩ := Option.isSome_iff_exists.mp (start_has (s := s) (x := x))
        have : lk (l.foldl (phase out) (phase out s x)) x = some v := le_foldl (fun s x => le_phase) l _ x v (le_iter _ _ x v hv)
        rw [List.foldl_cons, this]; rfl
      · exact h2 x hx
  exact this out [] (fun _ h => h) ⟨by simp, fun _ h => absurd h (by simp), fun _ h => absurd h (by simp)⟩
theorem sides_dif {out : List Nat} {c : Nat → Nat} (hc : ∀ x ∈ out, c x < 2) (hd : ∀ x ∈ out, ∀ y ∈ out, x &&& y = 0 → c x ≠ c y) : Dif out (sides out) := by
  have : ∀ (l : List Nat) (s : AL), (∀ x ∈ l, x ∈ out) → Keys out s → Clo out s → Dif out s → Dif out (l.foldl (phase out) s) := by
    intro l
    induction l with
    | nil => exact fun s _ _ _ d => d
    | cons a l ih =>
      intro s hl k cl d
      have ha := hl a List.mem_cons_self
      exact ih (phase out s a) (fun x hx => hl x (List.mem_cons_of_mem _ hx)) (phase_keys k ha) (phase_clo k ha) (phase_dif hc hd ha cl d)
  exact this out [] (fun _ h => h) ⟨by simp, fun _ h => absurd h (by simp), fun _ h => absurd h (by simp)⟩ (fun x hx y hy hxy h => by simp [lk] at h) (fun x hx y hy hxy v w h => by simp [lk] at h)
end M46
end
section
set_option Elab.async false
set_option linter.all false
set_option maxRecDepth 100000
set_option maxHeartbeats 4000000
namespace T46
open PySem PySem.Spec PyProof.Rows L2 Nb M46
variable {n m : Nat} {st : Sto}
def alD (s : AL) : D := .dk (s.map fun p => .inl (p.1 : Int)) (s.map fun p => .int (p.2 : Int))
theorem al_any {al : AL} {x : Nat} : ((al.map fun p => (Sum.inl (p.1 : Int) : Key)).any fun q => decide (q = .inl (x : Int))) = (lk al x).isSome := by
  induction al with
  | nil => rfl
  | cons p al ih =>
    rw [List.map_cons, List.any_cons, ih]
    unfold lk
    rw [List.find?_cons]
    by_cases h : p.1 = x
    · subst h; simp
    · have h1 : (p.1 == x) = false := by simpa using h
      have h2 : ¬ (Sum.inl (p.1 : Int) : Key) = .inl (x : Int) := fun e => h (by have := Sum.inl.inj e; omega)
      rw [h1]
      simp [h2]
theorem al_in {s : Sto} {al : AL} {x : Nat} : cmpD s .inn (.int (x : Int)) (alD al) = some (lk al x).isSome := by
  unfold alD; rw [in_dk, al_any]
theorem al_nin {s : Sto} {al : AL} {x : Nat} : cmpD s .nin (.int (x : Int)) (alD al) = some (!(lk al x).isSome) := by
  unfold alD; rw [nin_dk, al_any]
theorem al_look {al : AL} {x : Nat} : lookKV (al.map fun p => (Sum.inl (p.1 : Int) : Key)) (al.map fun p => D.int (p.2 : Int)) (.inl (x : Int)) = (lk al x).map fun v : Nat => D.int (v : Int) := by
  induction al with
  | nil => rfl
  | cons p al ih =>
    unfold lookKV lk at *
    rw [List.map_cons, List.map_cons, List.zip_cons_cons, List.find?_cons, List.find?_cons]
    by_cases h : p.1 = x
    · subst h; simp
    · have h1 : (p.1 == x) = false := by simpa using h
      have h2 : decide ((Sum.inl (p.1 : Int) : Key) = .inl (x : Int)) = false := decide_eq_false fun e => h (by have := Sum.inl.inj e; omega)
      simp only [h1, h2]
      exact ih
theorem al_idx {s : Sto} {al : AL} {x v : Nat} (h : lk al x = some v) : idxD s (alD al) (.int (x : Int)) = some (.int (v : Int)) := by
  show lookKV _ _ _ = _
  rw [al_look, h]; rfl
theorem al_set {al : AL} {x v : Nat} (h : lk al x = none) (hl : al.length ≤ 1000) : Nb.setD (alD al) (.int (x : Int)) (.int (v : Int)) = some (alD (al ++ [(x, v)])) := by
  have hn := al_any (al := al) (x := x)
  rw [h] at hn
  show (if (al.map fun p => (Sum.inl (p.1 : Int) : Key)).length < big then some (D.dk (putKs (al.map fun p => (Sum.inl (p.1 : Int) : Key)) (.inl (x : Int))) (putVs (al.map fun p => (Sum.inl (p.1 : Int) : Key)) (al.map fun p => D.int (p.2 : Int)) (.inl (x : Int)) (.int (v : Int)))) else none) = _
  rw [if_pos (by rw [List.length_map, big_eq]; omega)]
  unfold putKs putVs alD
  rw [if_neg (by rw [hn]; simp), if_neg (by rw [hn]; simp), List.map_append, List.map_append]
  rfl
def apD (out : List Nat) : List D := out.map fun x : Nat => .tup [.int (x : Int), .lst (natD (apart out x))]
theorem fold_const {α β : Type} {g : α → α} : ∀ (l : List β) (a : α) (it : Nat → α → α), (∀ a, it 0 a = a) → (∀ n a, it (n + 1) a = it n (g a)) → l.foldl (fun a _ => g a) a = it l.length a
  | [], a, it, h0, _ => (h0 a).symm
  | _ :: l, a, it, h0, hs => by
    rw [List.foldl_cons, fold_const l (g a) it h0 hs, List.length_cons, hs]
theorem apart_len {out : List Nat} {x : Nat} : (apart out x).length ≤ out.length := List.length_filter_le _ _
theorem Keys.le2 {out : List Nat} {s : AL} {x v : Nat} (k : M46.Keys out s) (h : lk s x = some v) : v ≤ 1 := by
  have := k.val _ (lk_mem h)
  dsimp only at this
  omega
section
variable {out : List Nat} {st : Sto} {b : Sl} {P : Po}
/-- the innermost loop -/
theorem w_inner (hol : out.length ≤ 200) {one : Nat} (ho : one ∈ out) {a d f : Sl} {al : AL} (k : M46.Keys out al)
    (hP : ∀ e, (∃ a, e = [.va (.int (m : Int)), .va (rowD out), .va (.lst (apD out)), a, .va (.int (one : Int)), .va (.lst (natD (apart out one))), .ow (alD (oneB out al one)), d, f]) → M46.Keys out (oneB out al one) → P.nx e st) :
    wpS (forN (.nm 3) (fun e s => exss pk.T (clN pk.T pk.defs n) (.cons (.iff (.bop true (.cmp .inn (.var 4) (.peek 6)) (.cmp .nin (.var 3) (.peek 6))) (.cons (.setO 6 (.var 3) (.bin .sub (.kon (.int 1)) (.idx (.peek 6) (.var 4)))) .nil) .nil) .nil) e s) (natD (apart out one))
      [.va (.int (m : Int)), .va (rowD out), .va (.lst (apD out)), a, .va (.int (one : Int)), .va (.lst (natD (apart out one))), .ow (alD al), d, f] st) P := by
  rw [natD_map (r := apart out one)]
  refine wp_forFold (fun al other => stepB one other al) (fun al e => ∃ a, e = [.va (.int (m : Int)), .va (rowD out), .va (.lst (apD out)), a, .va (.int (one : Int)), .va (.lst (natD (apart out one))), .ow (alD al), d, f]) (fun al => M46.Keys out al) _ _ _ ⟨a, by rw [natD_map]⟩ k (fun y hy al e k he => ?_) fun e he k => hP e he k
  obtain ⟨a, rfl⟩ := he
  obtain ⟨hy1, hy2⟩ := mem_apart.mp hy
  have hkl := M46.keys_len k
  refine ⟨_, rfl, ?_⟩
  have k2 : M46.Keys out (stepB one y al) := k.step hy1
  cases h1 : lk al one with
  | none =>
    have e1 : stepB one y al = al := by unfold stepB; rw [h1]
    have hin : ∀ s, cmpD s .inn (.int (one : Int)) (alD al) = some false := fun s => by rw [al_in, h1]; rfl
    simp [hin, e1, k]
  | some v =>
    have hin : ∀ s, cmpD s .inn (.int (one : Int)) (alD al) = some true := fun s => by rw [al_in, h1]; rfl
    cases h2 : lk al y with
    | some w =>
      have e1 : stepB one y al = al := by unfold stepB; rw [h1, h2]; rfl
      have hni : ∀ s, cmpD s .nin (.int (y : Int)) (alD al) = some false := fun s => by rw [al_nin, h2]; rfl
      simp [hin, hni, e1, k]
    | none =>
      have e1 : stepB one y al = al ++ [(y, 1 - v)] := by unfold stepB; rw [h1, h2]; rfl
      have hni : ∀ s, cmpD s .nin (.int (y : Int)) (alD al) = some true := fun s => by rw [al_nin, h2]; rfl
      have hix := fun s => al_idx (s := s) h1
      have hv := Keys.le2 k h1
      have hset : Nb.setD (alD al) (.int (y : Int)) (.int (1 - (v : Int))) = some (alD (al ++ [(y, 1 - v)])) := by
        rw [show (1 : Int) - (v : Int) = ((1 - v : Nat) : Int) by omega]
        exact al_set h2 (by omega)
      rw [e1] at k2 ⊢
      simp [hin, hni, hix, hset, k2]
/-- one round -/
theorem w_round (hol : out.length ≤ 200) {a b c d f : Sl} {al : AL} (k : M46.Keys out al)
    (hP : ∀ e, (∃ a b c, e = [.va (.int (m : Int)), .va (rowD out), .va (.lst (apD out)), a, b, c, .ow (alD (roundB out al)), d, f]) → M46.Keys out (roundB out al) → P.nx e st) :
    wpS (exs pk.T (clN pk.T pk.defs n) (.forr (.tp [4, 5]) (.seq (.var 2)) (.cons (.forr (.nm 3) (.seq (.var 5)) (.cons (.iff (.bop true (.cmp .inn (.var 4) (.peek 6)) (.cmp .nin (.var 3) (.peek 6))) (.cons (.setO 6 (.var 3) (.bin .sub (.kon (.int 1)) (.idx (.peek 6) (.var 4)))) .nil) .nil) .nil)) .nil))
      [.va (.int (m : Int)), .va (rowD out), .va (.lst (apD out)), a, b, c, .ow (alD al), d, f] st) P := by
  rw [w_for]
  have hfa : few (apD out) = some (apD out) := few_of (by unfold apD; rw [List.length_map, big_eq]; omega)
  simp [hfa]
  unfold apD
  refine wp_forFold (oneB out) (fun al e => ∃ a b c, e = [.va (.int (m : Int)), .va (rowD out), .va (.lst (apD out)), a, b, c, .ow (alD al), d, f]) (fun al => M46.Keys out al) _ _ _ ⟨a, b, c, rfl⟩ k (fun x hx al e k he => ?_) fun e he k => hP e he k
  obtain ⟨a, b, c, rfl⟩ := he
  refine ⟨_, rfl, ?_⟩
  have hf := few_nat (r := apart out x) (by have := apart_len (out := out) (x := x); omega)
  rw [w_scons, w_for]
  simp [hf]
  refine w_inner hol hx k fun e he k => ?_
  obtain ⟨a, rfl⟩ := he
  simp
  exact k
/-- a phase -/
theorem w_phase (hol : out.length ≤ 200) {x : Nat} (hx : x ∈ out) {a b c f : Sl} {al : AL} (k : M46.Keys out al)
    (hP : ∀ e, (∃ a b c f, e = [.va (.int (m : Int)), .va (rowD out), .va (.lst (apD out)), a, b, c, .ow (alD (phase out al x)), .va (.int (x : Int)), f]) → M46.Keys out (phase out al x) → P.nx e st) :
    wpS (exss pk.T (clN pk.T pk.defs n) (.cons (.iff (.cmp .nin (.var 7) (.peek 6)) (.cons (.setO 6 (.var 7) (.kon (.int 0))) .nil) .nil) (.cons (.forr (.nm 8) (.rng (.cons (.bi .len (.cons (.var 1) .nil)) .nil)) (.cons (.forr (.tp [4, 5]) (.seq (.var 2)) (.cons (.forr (.nm 3) (.seq (.var 5)) (.cons (.iff (.bop true (.cmp .inn (.var 4) (.peek 6)) (.cmp .nin (.var 3) (.peek 6))) (.cons (.setO 6 (.var 3) (.bin .sub (.kon (.int 1)) (.idx (.peek 6) (.var 4)))) .nil) .nil) .nil)) .nil)) .nil)) .nil))
      [.va (.int (m : Int)), .va (rowD out), .va (.lst (apD out)), a, b, c, .ow (alD al), .va (.int (x : Int)), f] st) P := by
  have hkl := M46.keys_len k
  have k1 : M46.Keys out (M46.startB al x) := keys_start k hx
  have hlen : ∀ s, biD s .len [rowD out] = some (.int (out.length : Int)) := fun s => by unfold rowD; rw [ln_lst, natD_len]
  have hrg := rng_nat (show out.length ≤ 1000000 by omega)
  have key : wpS (exs pk.T (clN pk.T pk.defs n) (.forr (.nm 8) (.rng (.cons (.bi .len (.cons (.var 1) .nil)) .nil)) (.cons (.forr (.tp [4, 5]) (.seq (.var 2)) (.cons (.forr (.nm 3) (.seq (.var 5)) (.cons (.iff (.bop true (.cmp .inn (.var 4) (.peek 6)) (.cmp .nin (.var 3) (.peek 6))) (.cons (.setO 6 (.var 3) (.bin .sub (.kon (.int 1)) (.idx (.peek 6) (.var 4)))) .nil) .nil) .nil)) .nil)) .nil))
      [.va (.int (m : Int)), .va (rowD out), .va (.lst (apD out)), a, b, c, .ow (alD (M46.startB al x)), .va (.int (x : Int)), f] st) P := by
    rw [w_for]
    simp [hlen, hrg]
    rw [natD_map]
    refine wp_forFold (fun al _ => roundB out al) (fun al e => ∃ a b c f, e = [.va (.int (m : Int)), .va (rowD out), .va (.lst (apD out)), a, b, c, .ow (alD al), .va (.int (x : Int)), f]) (fun al => M46.Keys out al) _ _ _ ⟨a, b, c, f, rfl⟩ k1 (fun i hi al e k he => ?_) fun e he k => ?_
    · obtain ⟨a, b, c, f, rfl⟩ := he
      refine ⟨_, rfl, ?_⟩
      rw [w_scons]
      refine w_round hol k fun e he k => ?_
      obtain ⟨a, b, c, rfl⟩ := he
      simp
      exact k
    · have e1 : (List.range out.length).foldl (fun al _ => roundB out al) (M46.startB al x) = phase out al x := by
        rw [fold_const (g := roundB out) (List.range out.length) (M46.startB al x) (iterB out) (fun _ => rfl) (fun _ _ => rfl), List.length_range]
        rfl
      rw [e1] at he k
      exact hP e he k
  rw [w_scons]
  cases h : lk al x with
  | some v =>
    have e1 : M46.startB al x = al := by unfold M46.startB; rw [h]; rfl
    have hni : ∀ s, cmpD s .nin (.int (x : Int)) (alD al) = some false := fun s => by rw [al_nin, h]; rfl
    rw [e1] at key
    simp [-w_scons, hni]
    rw [w_scons]
    exact key.mono (fun _ _ h => by simpa using h) (fun _ _ h => h) (fun _ _ _ _ h => h) (fun _ _ h => h) fun _ _ h => h
  | none =>
    have e1 : M46.startB al x = al ++ [(x, 0)] := by unfold M46.startB; rw [h]; rfl
    have hni : ∀ s, cmpD s .nin (.int (x : Int)) (alD al) = some true := fun s => by rw [al_nin, h]; rfl
    have hset : Nb.setD (alD al) (.int (x : Int)) (.int 0) = some (alD (al ++ [(x, 0)])) := al_set h (by omega)
    rw [e1] at key
    simp [-w_scons, hni]
    rw [w_scons]
    simp [-w_scons, hset]
    rw [w_scons]
    exact key.mono (fun _ _ h => by simpa using h) (fun _ _ h => h) (fun _ _ _ _ h => h) (fun _ _ h => h) fun _ _ h => h
end
end T46
end
section
set_option Elab.async false
set_option linter.all false
set_option maxRecDepth 100000
set_option maxHeartbeats 4000000
namespace T46
open PySem PySem.Spec PyProof.Rows L2 Nb M46
variable {n m : Nat} {st : Sto} {out : List Nat}
theorem apD_map : apD out = out.map fun x : Nat => D.tup [.int (x : Int), .lst (natD (apart out x))] := rfl
theorem ne_natL {s : Sto} {r : List Nat} : cmpD s .ne (.lst (natD r)) (.lst []) = some (!decide (r = [])) := ne_nilL
theorem eq_natL {s : Sto} {r : List Nat} : cmpD s .eq (.lst (natD r)) (.lst []) = some (decide (r = [])) := eq_nilL
/-- [one for one, others in apart if p] == [] -/
def badB (out : List Nat) (s : AL) (x : Nat) : List Nat := (apart out x).filter fun y => decide (lk s y = lk s x)
theorem c_l_parts (hn : 1 ≤ n) (hm1 : 1 ≤ m) (hm : m ≤ 4) (hol : out.length ≤ 200) (hl : ∀ x ∈ out, x < 2 ^ m ∧ x ≠ 0) : ∃ k, Chi k out ∧ C n "_law_parts" [.int (m : Int), rowD out] st = .ok (.int (k : Int)) st := by
  obtain ⟨n, rfl, hn2⟩ := succ_of hn
  have hp16 : 2 ^ m ≤ 16 := Nat.pow_le_pow_right (n := 2) (by decide) hm
  by_cases hnil : out = []
  · refine ⟨0, by rw [hnil]; exact chi0, ?_⟩
    rw [C, u_l_parts, ← wpR_eq, wpR_outR]
    simp [i_l_parts, eq_nilL, hnil, big_eq]
  · obtain ⟨x0, hx0⟩ := List.exists_mem_of_ne_nil out hnil
    have hof : (itemsD (rowD out)).bind few = some (natD out) := few_nat (by omega)
    have hfa : few (apD out) = some (apD out) := few_of (by unfold apD; rw [List.length_map, big_eq]; omega)
    -- the common beginning
    have start : ∀ (P : Po), wpS (exss pk.T (clN pk.T pk.defs n) (match i_l_parts with | .cons _ (.cons _ r) => r | _ => .nil) [.va (.int (m : Int)), .va (rowD out), .va (.lst (apD out)), .no, .no, .no, .no, .no, .no] st) P → wpS (exss pk.T (clN pk.T pk.defs n) i_l_parts [.va (.int (m : Int)), .va (rowD out), .no, .no, .no, .no, .no, .no, .no] st) P := fun P h => by
      unfold i_l_parts at h ⊢
      dsimp only at h
      rw [w_scons]
      simp [-w_scons, eq_nilL, hnil, big_eq]
      rw [w_scons]
      simp [-w_scons, hof]
      refine wp_lcNm (fun x => .tup [.int (x : Int), .lst (natD (apart out x))]) (fun x hx => ?_) ?_
      · simp [few_nat (show out.length ≤ 1000000 by omega), hof]
        refine wp_lcNf (fun y => x &&& y == 0) (fun y hy => ?_) ?_
        · obtain ⟨w, hw⟩ : ∃ w, w = x &&& y := ⟨_, rfl⟩
          have hband : binD .band (.int (x : Int)) (.int (y : Int)) = some (.int (w : Int)) := by rw [hw]; exact band_nat
          rw [← hw]
          simp [hband]
          by_cases h0 : w = 0
          · simp [h0]
          · have : ¬ (w : Int) = 0 := by omega
            simp [h0, this]
        · exact ⟨by simp [big_eq], rfl, rfl⟩
      · exact h
    by_cases hap : ∀ x ∈ out, apart out x = []
    · -- all meet
      have hmeet : ∀ x ∈ out, ∀ y ∈ out, x &&& y ≠ 0 := fun x hx y hy e => by
        have := mem_apart.mpr ⟨hy, e⟩
        rw [hap x hx] at this; cases this
      refine ⟨1, Chi.of (col1 hmeet) (no0 hx0), ?_⟩
      rw [C, u_l_parts, ← wpR_eq, wpR_outR]
      refine start _ ?_
      unfold i_l_parts
      dsimp only
      rw [w_scons]
      simp [-w_scons, hfa]
      refine wp_lcF (fun x => !decide (apart out x = [])) (fun x => D.int (x : Int)) (rows := out) (fun x hx => ?_) ?_
      · simp [ne_natL, big_eq, hap x hx]
      · have : out.filter (fun x => !decide (apart out x = [])) = [] := by
          rw [List.filter_eq_nil_iff]; intro x hx; simp [hap x hx]
        rw [this]
        have he : cmpD st .eq (.lst (([] : List Nat).map fun x : Nat => D.int (x : Int))) (.lst []) = some true := rfl
        simp [he, big_eq]
        exact Or.inr rfl
    · obtain ⟨x1, hx1, hx2⟩ : ∃ x, x ∈ out ∧ apart out x ≠ [] := by
        refine Classical.byContradiction fun hc => hap fun x hx => Classical.byContradiction fun q => hc ⟨x, hx, q⟩
      obtain ⟨x2, hx3⟩ := List.exists_mem_of_ne_nil _ hx2
      obtain ⟨hx4, hx5⟩ := mem_apart.mp hx3
      have hno1 : ¬ HasCol 1 out := no1 hx1 hx4 hx5
      obtain ⟨kal, hall⟩ := sides_all (out := out)
      -- two sides, or not
      have hdec : (∀ x ∈ out, badB out (sides out) x = []) ↔ HasCol 2 out := by
        constructor
        · intro h
          refine ⟨fun x => (lk (sides out) x).getD 0, fun x hx => ?_, fun x hx y hy e q => ?_⟩
          · obtain ⟨v, hv⟩ := Option.isSome_iff_exists.mp (hall x hx)
            have := Keys.le2 kal hv
            show (lk (sides out) x).getD 0 < 2
            rw [hv]; show v < 2; omega
          · obtain ⟨v, hv⟩ := Option.isSome_iff_exists.mp (hall x hx)
            obtain ⟨w, hw⟩ := Option.isSome_iff_exists.mp (hall y hy)
            replace q : (lk (sides out) x).getD 0 = (lk (sides out) y).getD 0 := q
            rw [hv, hw] at q
            have q : v = w := q
            have : y ∈ badB out (sides out) x := by
              unfold badB
              rw [List.mem_filter]
              exact ⟨mem_apart.mpr ⟨hy, e⟩, by rw [hv, hw, q]; simp⟩
            rw [h x hx] at this; cases this
        · rintro ⟨c, h1, h2⟩ x hx
          unfold badB
          rw [List.filter_eq_nil_iff]
          intro y hy
          obtain ⟨hy1, hy2⟩ := mem_apart.mp hy
          obtain ⟨v, hv⟩ := Option.isSome_iff_exists.mp (hall x hx)
          obtain ⟨w, hw⟩ := Option.isSome_iff_exists.mp (hall y hy1)
          have := sides_dif h1 h2 x hx y hy1 hy2 v w hv hw
          rw [hv, hw]
          simp
          exact fun e => this e.symm
      -- the walk up to the sides
      have walk : ∀ (P : Po), (∀ e, (∃ a b c d f, e = [.va (.int (m : Int)), .va (rowD out), .va (.lst (apD out)), a, b, c, .ow (alD (sides out)), d, f]) → wpS (exss pk.T (clN pk.T pk.defs n) (match i_l_parts with | .cons _ (.cons _ (.cons _ (.cons _ (.cons _ r)))) => r | _ => .nil) e st) P) → wpS (exss pk.T (clN pk.T pk.defs n) i_l_parts [.va (.int (m : Int)), .va (rowD out), .no, .no, .no, .no, .no, .no, .no] st) P := fun P h => by
        refine start P ?_
        unfold i_l_parts at h ⊢
        dsimp only at h ⊢
        rw [w_scons]
        simp [-w_scons, hfa]
        refine wp_lcF (fun x => !decide (apart out x = [])) (fun x => D.int (x : Int)) (rows := out) (fun x hx => ?_) ?_
        · simp [ne_natL, big_eq]
          by_cases q : apart out x = [] <;> simp [q]
        · have hf : out.filter (fun x => !decide (apart out x = [])) ≠ [] := by
            intro e
            rw [List.filter_eq_nil_iff] at e
            have := e x1 hx1
            simp [hx2] at this
          obtain ⟨fs, hfs⟩ : ∃ fs, fs = out.filter (fun x => !decide (apart out x = [])) := ⟨_, rfl⟩
          rw [← hfs] at hf
          have he : cmpD st .eq (.lst (fs.map fun x : Nat => D.int (x : Int))) (.lst []) = some false := by
            rw [← natD_map, eq_natL]; simp [hf]
          rw [← hfs]
          simp [-w_scons, he, big_eq]
          rw [w_scons]
          simp [-w_scons, isOwn]
          rw [w_scons, w_for]
          simp [-w_scons, hof, few_nat (show out.length ≤ 1000000 by omega)]
          rw [natD_map (r := out)]
          have hemp : (D.dk [] []) = alD [] := rfl
          rw [hemp]
          refine wp_forFold (phase out) (fun al e => ∃ a b c d f, e = [.va (.int (m : Int)), .va (rowD out), .va (.lst (apD out)), a, b, c, .ow (alD al), d, f]) (fun al => M46.Keys out al) _ _ _ ⟨_, _, _, _, _, rfl⟩ ⟨by simp, fun _ h => absurd h (by simp), fun _ h => absurd h (by simp)⟩ (fun x hx al e k he => ?_) fun e he k => ?_
          · obtain ⟨a, b, c, d, f, rfl⟩ := he
            refine ⟨_, rfl, ?_⟩
            refine w_phase hol hx k fun e he k => ?_
            obtain ⟨a, b, c, f, rfl⟩ := he
            exact ⟨rfl, ⟨a, b, c, _, f, rfl⟩, k⟩
          · exact h e he
      -- what is asked of the sides
      have ask : ∀ (P : Po) (a b c d f : Sl), (∀ bb, bb = decide (∀ x ∈ out, badB out (sides out) x = []) → wpS (exss pk.T (clN pk.T pk.defs n) (if bb = true then .cons (.ret (.kon (.int 2))) .nil else (match i_l_parts with | .cons _ (.cons _ (.cons _ (.cons _ (.cons _ (.cons _ r))))) => r | _ => .nil)) [.va (.int (m : Int)), .va (rowD out), .va (.lst (apD out)), a, b, c, .ow (alD (sides out)), d, f] st) P) →
          wpS (exss pk.T (clN pk.T pk.defs n) (match i_l_parts with | .cons _ (.cons _ (.cons _ (.cons _ (.cons _ r)))) => r | _ => .nil) [.va (.int (m : Int)), .va (rowD out), .va (.lst (apD out)), a, b, c, .ow (alD (sides out)), d, f] st) P := fun P a b c d f h => by
        unfold i_l_parts at h ⊢
        dsimp only at h ⊢
        rw [w_scons]
        simp [-w_scons, hfa]
        refine wp_lcF (fun x => !decide (badB out (sides out) x = [])) (fun x => D.int (x : Int)) (rows := out) (fun x hx => ?_) ?_
        · simp [few_nat (show (apart out x).length ≤ 1000000 by have := apart_len (out := out) (x := x); omega)]
          obtain ⟨v, hv⟩ := Option.isSome_iff_exists.mp (hall x hx)
          refine wp_lcNf (fun y => decide (lk (sides out) y = lk (sides out) x)) (fun y hy => ?_) ?_
          · obtain ⟨w, hw⟩ := Option.isSome_iff_exists.mp (hall y (mem_apart.mp hy).1)
            have i1 := fun s => al_idx (s := s) hv
            have i2 := fun s => al_idx (s := s) hw
            rw [hv, hw]
            simp [i1, i2]
            by_cases q : w = v
            · subst q; simp
            · have : ¬ (w : Int) = (v : Int) := by omega
              simp [q, this]
          · have he : ∀ s, cmpD s .ne (.lst (natD ((apart out x).filter fun y => decide (lk (sides out) y = lk (sides out) x)))) (.lst []) = some (!decide (badB out (sides out) x = [])) := fun s => ne_natL
            simp [he, big_eq]
            cases hq : decide (badB out (sides out) x = []) <;> simp at hq <;> simp [hq]
        · have he : cmpD st .eq (.lst ((out.filter fun x => !decide (badB out (sides out) x = [])).map fun x : Nat => D.int (x : Int))) (.lst []) = some (decide (∀ x ∈ out, badB out (sides out) x = [])) := by
            rw [← natD_map, eq_natL]
            congr 1
            rw [decide_eq_decide, List.filter_eq_nil_iff]
            refine forall_congr' fun x => imp_congr_right fun _ => ?_
            simp
          obtain ⟨fs, hfs⟩ : ∃ fs, fs = ((out.filter fun x => !decide (badB out (sides out) x = [])).map fun x : Nat => D.int (x : Int)) := ⟨_, rfl⟩
          rw [← hfs] at he ⊢
          obtain ⟨bb, hbb⟩ : ∃ bb, bb = decide (∀ x ∈ out, badB out (sides out) x = []) := ⟨_, rfl⟩
          rw [← hbb] at he
          have h := h bb hbb
          simp [-w_scons, he, big_eq]
          cases bb with
          | true => simpa using h
          | false => simpa using h
      by_cases h2 : HasCol 2 out
      · refine ⟨2, Chi.of h2 hno1, ?_⟩
        rw [C, u_l_parts, ← wpR_eq, wpR_outR]
        refine walk _ fun e he => ?_
        obtain ⟨a, b, c, d, f, rfl⟩ := he
        refine ask _ a b c d f fun bb hbb => ?_
        have : bb = true := by rw [hbb]; exact decide_eq_true (hdec.mpr h2)
        subst this
        simp
      · have h4 : ∃ k : Nat, Chi k out ∧ ((k = 4 ∧ m = 4 ∧ ∀ w ∈ [1, 2, 4, 8], w ∈ out) ∨ (k = 3 ∧ ¬ (m = 4 ∧ ∀ w ∈ [1, 2, 4, 8], w ∈ out))) := by
          by_cases hq : m = 4 ∧ ∀ w ∈ [1, 2, 4, 8], w ∈ out
          · obtain ⟨hm4, hw⟩ := hq
            refine ⟨4, Chi.of (col44 fun x hx => ⟨(hl x hx).2, by have := (hl x hx).1; omega⟩) (no3 (hw 1 (by simp)) (hw 2 (by simp)) (hw 4 (by simp)) (hw 8 (by simp))), .inl ⟨rfl, hm4, hw⟩⟩
          · refine ⟨3, Chi.of ?_ h2, .inr ⟨rfl, hq⟩⟩
            by_cases hm4 : m = 4
            · have : ∃ w, w < 4 ∧ 2 ^ w ∉ out := by
                refine Classical.byContradiction fun hc => hq ⟨hm4, fun w hw => ?_⟩
                have hcc : ∀ w, w < 4 → 2 ^ w ∈ out := fun w hw => Classical.byContradiction fun q => hc ⟨w, hw, q⟩
                simp only [List.mem_cons, List.not_mem_nil, or_false] at hw
                rcases hw with rfl | rfl | rfl | rfl
                · exact hcc 0 (by decide)
                · exact hcc 1 (by decide)
                · exact hcc 2 (by decide)
                · exact hcc 3 (by decide)
              obtain ⟨w, hw1, hw2⟩ := this
              exact col34 (fun x hx => ⟨(hl x hx).2, by have := (hl x hx).1; omega⟩) hw1 hw2
            · have hp8 : 2 ^ m ≤ 8 := Nat.pow_le_pow_right (n := 2) (by decide) (show m ≤ 3 by omega)
              exact col3 fun x hx => ⟨(hl x hx).2, by have := (hl x hx).1; omega⟩
        obtain ⟨k, hk, hcase⟩ := h4
        refine ⟨k, hk, ?_⟩
        rw [C, u_l_parts, ← wpR_eq, wpR_outR]
        refine walk _ fun e he => ?_
        obtain ⟨a, b, c, d, f, rfl⟩ := he
        refine ask _ a b c d f fun bb hbb => ?_
        have : bb = false := by rw [hbb]; exact decide_eq_false fun q => h2 (hdec.mp q)
        subst this
        unfold i_l_parts
        dsimp only
        have hni : ∀ (s : Sto) (w : Nat), cmpD s .nin (.int (w : Int)) (rowD out) = some (!decide (w ∈ out)) := fun s w => congrArg (Option.map (!·)) (in_row (s := s))
        have h4l : (D.lst [.int 1, .int 2, .int 4, .int 8]) = .lst (natD [1, 2, 4, 8]) := rfl
        have hf4 : few (natD [1, 2, 4, 8]) = some (natD [1, 2, 4, 8]) := few_nat (by decide)
        by_cases hm4 : m = 4
        · simp [hm4, big_eq]
          refine ⟨natD [1, 2, 4, 8], hf4, ?_⟩
          refine wp_lcNf (fun w => !decide (w ∈ out)) (fun w hw => ?_) ?_
          · simp [hni]
            by_cases q : w ∈ out <;> simp [q]
          · have hiff : ([1, 2, 4, 8].filter fun w => !decide (w ∈ out)) = [] ↔ ∀ w ∈ [1, 2, 4, 8], w ∈ out := by
              rw [List.filter_eq_nil_iff]
              refine forall_congr' fun x => imp_congr_right fun _ => ?_
              simp
            have he : cmpD st .eq (.lst (natD ([1, 2, 4, 8].filter fun w => !decide (w ∈ out)))) (.lst []) = some (decide (([1, 2, 4, 8].filter fun w => !decide (w ∈ out)) = [])) := eq_natL
            obtain ⟨fs, hfs⟩ : ∃ fs, fs = ([1, 2, 4, 8].filter fun w => !decide (w ∈ out)) := ⟨_, rfl⟩
            rw [← hfs] at he hiff ⊢
            rcases hcase with ⟨rfl, _, hw⟩ | ⟨rfl, hw⟩
            · rw [decide_eq_true (hiff.mpr hw)] at he
              simp [he]
            · have : ¬ fs = [] := fun q => hw ⟨hm4, hiff.mp q⟩
              rw [decide_eq_false this] at he
              simp [he]
        · have hmi : ¬ (m : Int) = 4 := by omega
          rcases hcase with ⟨rfl, h, _⟩ | ⟨rfl, hw⟩
          · exact absurd h hm4
          · simp [hmi, big_eq]
end T46
end
section
set_option Elab.async false
set_option linter.all false
set_option maxRecDepth 100000
set_option maxHeartbeats 4000000
namespace T46
open PySem PySem.Spec PyProof.Rows L2 Nb M46
variable {n m : Nat} {st : Sto} {out : List Nat}
theorem eqvs_nat {a b : List Nat} : eqvs (natD a) (natD b) = decide (a = b) := by
  unfold natD
  rw [Nb.eqvs_ints, decide_eq_decide]
  refine ⟨fun h => ?_, fun h => by rw [h]⟩
  exact (List.map_inj_right (fun a b h => by omega)).mp h
theorem eq_rows {s : Sto} {a b : List Nat} : cmpD s .eq (.lst (natD a)) (.lst (natD b)) = some (decide (a = b)) := by
  show (if (shapedD (.lst (natD a)) && shapedD (.lst (natD b))) = true then some (eqv (.lst (natD a)) (.lst (natD b))) else none) = _
  rw [shaped_nat, shaped_nat, if_pos (by rfl)]
  show some (eqvs (natD a) (natD b)) = _
  rw [eqvs_nat]
theorem ne_rows {s : Sto} {a b : List Nat} : cmpD s .ne (.lst (natD a)) (.lst (natD b)) = some (!decide (a = b)) := by
  show (cmpD s .eq (.lst (natD a)) (.lst (natD b))).map (!·) = _
  rw [eq_rows]; rfl
theorem ssrt_asc {s : Sto} {q : List Nat} (h : q.Pairwise (· < ·)) (hl : q.length ≤ 4000) : biD s .ssrt [.lst (natD q)] = some (.lst (natD q)) := by
  show (match asInts (natD q) with
    | some ns => if ns.length ≤ 4000 then some (D.lst ((sortBy id (dedupZ ns)).map .int)) else none
    | none => _) = _
  unfold natD
  rw [asI_map]
  show (if (q.map fun x : Nat => (x : Int)).length ≤ 4000 then _ else none) = _
  rw [if_pos (by rw [List.length_map]; exact hl), ← sortZ_one (ns := q.map fun x : Nat => (x : Int)) (ns' := q.map fun x : Nat => (x : Int)) (by rw [List.pairwise_map]; exact h.imp fun h => by omega) fun k => Iff.rfl]
theorem grp_ne {s : Sto} {q : List Nat} (h : q ≠ []) : cmpD s .eq (grpD m q) (.tup []) = some false := by
  have h1 : q.map (setT m) = (q.map (S m)).map tupI := by rw [List.map_map]; rfl
  show (if (shapedD (grpD m q) && shapedD (.tup [])) = true then some (eqv (grpD m q) (.tup [])) else none) = _
  have h2 : shapedD (grpD m q) = true := by unfold grpD; rw [h1]; exact shaped_tups
  rw [h2, if_pos (by rfl)]
  cases q with
  | nil => exact absurd rfl h
  | cons x q => rfl
theorem c_l_parting (hn : 3 ≤ n) (hm1 : 1 ≤ m) (hm : m ≤ 4) (hol : out.length ≤ 200) (hl : ∀ x ∈ out, x < 2 ^ m ∧ x ≠ 0) (hasc : out.Pairwise (· < ·)) {k : Nat} {ps : List (List Nat)} (P : Parts out k ps) :
    C n "_law_parting" [.int (m : Int), rowD out, .tup (ps.map fun p => grpD m (srtN p))] st = .ok (.bl true) st := by
  obtain ⟨n, rfl, hn2⟩ := succ_of hn
  rw [C, u_l_parting, ← wpR_eq, wpR_outR]
  have hm8 : m ≤ 8 := by omega
  have hm6 : m ≤ 6 := by omega
  have hlen := parts_len P
  have hnd : out.Nodup := hasc.imp fun h e => by omega
  have hfn : ps.flatten.Nodup := P.good.perm.nodup_iff.mpr hnd
  have hfa : few (allS m) = some (allS m) := few_of (by unfold allS; rw [List.length_map, List.length_range, big_eq]; have := pow_le hm8; omega)
  obtain ⟨told, htold⟩ : ∃ told, told = ps.map fun p => grpD m (srtN p) := ⟨_, rfl⟩
  have htl : told.length = ps.length := by rw [htold, List.length_map]
  have hft : few told = some told := few_of (by rw [htl, big_eq]; omega)
  rw [← htold]
  unfold i_l_parting
  rw [w_scons]
  simp [-w_scons, c_l_all (show 1 ≤ n by omega) hm6, hfa]
  unfold allS
  refine wp_lcmm (fun i : Nat => .str (rp m i)) (fun i hi => ?_) ?_
  · simp [repr_set hm8 (List.mem_range.mp hi)]
  rw [show (List.range (2 ^ m)).map (fun i : Nat => D.str (rp m i)) = (shownS m).map .str by unfold shownS; rw [List.map_map]; rfl]
  rw [w_scons]
  simp [-w_scons]
  rw [w_scons]
  simp [-w_scons, big_eq]
  rw [w_scons, w_for]
  simp [-w_scons, hft]
  have hacc : ∀ i, (((ps.take i).map srtN).flatten).length ≤ out.length := fun i => by
    have h1 : ((ps.map srtN).flatten).length = out.length := by
      have : ∀ l : List (List Nat), ((l.map srtN).flatten).Perm l.flatten := by
        intro l
        induction l with
        | nil => exact List.Perm.refl _
        | cons a l ih => rw [List.map_cons, List.flatten_cons, List.flatten_cons]; exact srtN_perm.append ih
      exact ((this ps).trans P.good.perm).length_eq
    rw [← h1]
    conv => rhs; rw [← List.take_append_drop i ps, List.map_append, List.flatten_append, List.length_append]
    omega
  have hrefl : ∀ l : List (List Nat), ((l.map srtN).flatten).Perm l.flatten := by
    intro l
    induction l with
    | nil => exact List.Perm.refl _
    | cons a l ih => rw [List.map_cons, List.flatten_cons, List.flatten_cons]; exact srtN_perm.append ih
  refine wp_fori (fun i e s => s = st ∧ ∃ a b c d, e = [.va (.int (m : Int)), .va (rowD out), .va (.tup told), .va (.lst ((shownS m).map .str)), a, .va (.lst (natD ((ps.take i).map srtN).flatten)), b, c, d]) ⟨rfl, _, _, _, _, rfl⟩ (fun i v e s hv hI => ?_) fun e s hI => ?_
  · obtain ⟨rfl, a, b, c, d, rfl⟩ := hI
    rw [htold, List.getElem?_map] at hv
    obtain ⟨p, hp, rfl⟩ := Option.map_eq_some_iff.mp hv
    have hpm : p ∈ ps := List.mem_of_getElem? hp
    obtain ⟨q, hq⟩ : ∃ q, q = srtN p := ⟨_, rfl⟩
    have hqp : q.Perm p := by rw [hq]; exact srtN_perm
    have hpn : p.Nodup := (List.sublist_flatten_of_mem hpm).nodup hfn
    have hqa : q.Pairwise (· < ·) := by rw [hq]; exact srtN_asc hpn
    have hql : q.length ≤ 200 := by rw [hqp.length_eq]; exact Nat.le_trans (hlen.2 p hpm) hol
    have hqx : ∀ x ∈ q, x < 2 ^ m := fun x hx => (hl x (P.good.perm.mem_iff.mp (List.mem_flatten.mpr ⟨p, hpm, hqp.mem_iff.mp hx⟩))).1
    have hqn : q ≠ [] := fun e => P.good.ne p hpm (by rw [e] at hqp; exact List.nil_perm.mp hqp)
    have hqm : ∀ x ∈ q, ∀ y ∈ q, x &&& y ≠ 0 := fun x hx y hy => P.good.meet p hpm x (hqp.mem_iff.mp hx) y (hqp.mem_iff.mp hy)
    have hst : ((ps.take (i + 1)).map srtN).flatten = ((ps.take i).map srtN).flatten ++ q := by
      obtain ⟨hi, he⟩ := List.getElem?_eq_some_iff.mp hp
      rw [List.take_succ_eq_append_getElem hi, List.map_append, List.flatten_append, he, List.map_cons, ← hq]
      simp
    have hal := hacc i
    obtain ⟨acc, hac⟩ : ∃ acc, acc = ((ps.take i).map srtN).flatten := ⟨_, rfl⟩
    rw [← hac] at hst hal ⊢
    rw [hst, ← hq]
    have hfq : (itemsD (grpD m q)).bind few = some (q.map (setT m)) := by
      show few (q.map (setT m)) = _
      exact few_of (by rw [List.length_map, big_eq]; omega)
    have hisi : isiD (grpD m q) ["tuple"] = some true := by unfold grpD; simp
    refine ⟨_, rfl, ?_⟩
    rw [w_scons]
    simp [-w_scons, hisi, grp_ne hqn, big_eq, hfq]
    refine wp_lcF (fun _ => false) (fun i : Nat => setT m i) (fun i hi => ?_) ?_
    · have hi := hqx i hi
      simp [repr_set hm8 hi, in_shown hm6 hi]
    rw [show (q.filter fun _ => false).map (fun i : Nat => setT m i) = [] by simp]
    refine .inl ⟨ne_nils, ?_⟩
    rw [w_scons]
    simp [-w_scons, hfq]
    refine wp_lcmm (fun i : Nat => .int (i : Int)) (fun i hi => ?_) ?_
    · have hi := hqx i hi
      simp [repr_set hm8 hi, mt_shown hm6 hi]
    rw [← natD_map, w_scons]
    simp [-w_scons, ssrt_asc hqa (show q.length ≤ 4000 by omega), ne_rows]
    rw [w_scons]
    simp [-w_scons, few_nat (show q.length ≤ 1000000 by omega), big_eq]
    refine wp_lcNf (fun _ => false) (fun x hx => ?_) ?_
    · simp [few_nat (show q.length ≤ 1000000 by omega)]
      refine wp_lcNf (fun _ => false) (fun y hy => ?_) ?_
      · obtain ⟨w, hw⟩ : ∃ w, w = x &&& y := ⟨_, rfl⟩
        have hband : binD .band (.int (x : Int)) (.int (y : Int)) = some (.int (w : Int)) := by rw [hw]; exact band_nat
        have h0 : ¬ w = 0 := by rw [hw]; exact hqm x hx y hy
        have : ¬ (w : Int) = 0 := by omega
        simp [hband, h0]
      · simp [ne_natL, big_eq]
    simp [-w_scons, ne_natL]
    rw [w_scons]
    simp [add_nats (show acc.length + q.length ≤ 1000 by omega)]
  · obtain ⟨rfl, a, b, c, d, rfl⟩ := hI
    rw [htl, List.take_length]
    obtain ⟨j, hj1, hj2⟩ := c_l_parts (n := n) (st := s) (by omega) hm1 hm hol hl
    have hjk : j = ps.length := by rw [hj1.uniq P.chi, P.len]
    have hso : srtN (ps.map srtN).flatten = out := by
      have hp1 : (srtN (ps.map srtN).flatten).Perm out := srtN_perm.trans ((hrefl ps).trans P.good.perm)
      have hnd2 : ((ps.map srtN).flatten).Nodup := ((hrefl ps).trans P.good.perm).nodup_iff.mpr hnd
      exact perm_sorted (key := fun i : Nat => (i : Int)) hp1 ((srtN_asc hnd2).imp fun h => by omega) (hasc.imp fun h => by omega)
    have hle : biD s .len [.tup told] = some (.int (ps.length : Int)) := by rw [ln_tup, htl]
    have he : ∀ s, cmpD s .eq (.lst (natD out)) (rowD out) = some true := fun s => by
      have := eq_rows (s := s) (a := out) (b := out)
      rw [decide_eq_true rfl] at this
      exact this
    simp [srt_natD, hso, he, htl, hj2, hjk]
end T46
end
section
set_option Elab.async false
set_option linter.all false
set_option maxRecDepth 100000
set_option maxHeartbeats 4000000
namespace T46
open PySem PySem.Spec PyProof.Rows L2 Nb M46
section
variable {c m : Int} {cs : List Int}
theorem i10 : idxD (dealS cs m) (.ref 1) (.int 0) = some (.ref 0) := rfl
theorem i11 : idxD (dealS cs m) (.ref 1) (.int 1) = some (.int m) := rfl
theorem i00 : idxD (dealS (c :: cs) m) (.ref 0) (.int 0) = some (.int c) := (atI_cast (xs := (c :: cs).map D.int) (i := 0)).trans rfl
theorem ne_nil : cmpD (dealS cs m) .ne (.ref 0) (.lst []) = some (!decide (cs = [])) := by
  show (eqD (dealS cs m) (.ref 0) (.lst [])).map (!·) = _
  have h2 : shapedD (.lst (cs.map .int)) = true := by unfold shapedD; simp only [okD, okDs_ints, depD, depDs_ints]; decide
  have e : eqD (dealS cs m) (.ref 0) (.lst []) = if (shapedD (.lst (cs.map .int)) && shapedD (.lst [])) = true then some (eqv (.lst (cs.map .int)) (.lst [])) else none := rfl
  rw [e, h2, if_pos (by rfl)]
  cases cs <;> simp [eqv, eqvs]
theorem pop0 (h : (c :: cs).length ≤ 63) : popRD (.ref 0) (some 0) (dealS (c :: cs) m) = .ok (.int c) (dealS cs m) := by
  have e : popD ((c :: cs).map D.int) (some 0) = some (.int c, cs.map .int) := by
    unfold popD
    dsimp only
    rw [if_pos (by rw [big_eq, List.length_map]; omega)]
    have : ixN ((c :: cs).map D.int).length 0 = some 0 := by
      have := ixN_nat (n := ((c :: cs).map D.int).length) (i := 0)
      rw [if_pos (by simp)] at this
      exact this
    rw [this]
    rfl
  show (match popD ((c :: cs).map D.int) (some 0) with
      | some (d, r) => Res.ok d ((dealS (c :: cs) m).set 0 (.lst r))
      | none => .bad) = _
  rw [e]
  rfl
theorem set0 {x : Int} : (dealS (c :: cs) m).set 0 (.lst (((c :: cs).map D.int).set 0 (.int x))) = dealS (x :: cs) m := rfl
theorem set1 {x : Int} : (dealS cs m).set 1 (.lst ([.ref 0, D.int m].set 1 (.int x))) = dealS cs x := rfl
theorem get0 : (dealS cs m)[0]? = some (.lst (cs.map .int)) := rfl
theorem get1 : (dealS cs m)[1]? = some (.lst [.ref 0, .int m]) := rfl
end
variable {n : Nat} {st : Sto}
theorem c_pick (hn : 1 ≤ n) {b : Nat} (h1 : 1 ≤ b) (h2 : b ≤ 1000) (hd : Dl st) : wpR (C n "_law_pick" [.ref 1, .int (b : Int)] st) (fun d s => Dl s ∧ ∃ k : Nat, d = .int (k : Int) ∧ k < b) (fun _ _ _ => False) := by
  obtain ⟨n, rfl, hm⟩ := succ_of hn
  rw [C, u_l_pick, wpR_outR]
  obtain ⟨cs, m, rfl, hc, hl, hm0⟩ := hd
  unfold i_l_pick
  rw [w_scons, w_whl]
  refine wp_while (fun e s => e = [.va (.ref 1), .va (.int (b : Int)), .no] ∧ ∃ cs, s = dealS cs m ∧ (∀ c ∈ cs, 0 ≤ c) ∧ cs.length ≤ 63) (fun e s => match s with | .lst xs :: _ => xs.length | _ => 0) (fun e s hI => ?_) fuelW _ _ ⟨rfl, cs, rfl, hc, hl⟩ ?_
  · obtain ⟨rfl, cs, rfl, hc, hl⟩ := hI
    have hmodb : ∀ x : Int, binD .mod (.int x) (.int (b : Int)) = some (.int (x % b)) := fun x => by
      show (Nb.binI .mod _ _).map D.int = _
      unfold Nb.binI
      dsimp only
      rw [if_pos (by unfold cMod; simp; omega)]
      show some (D.int _) = _
      rw [Int.fmod_eq_emod_of_nonneg _ (by omega)]
    have hfin : ∀ x : Int, ∃ k : Nat, D.int (x % b) = .int (k : Int) ∧ k < b := fun x => by
      have h3 := Int.emod_nonneg x (show (b : Int) ≠ 0 by omega)
      have h4 := Int.emod_lt_of_pos x (show (0 : Int) < b by omega)
      exact ⟨(x % b).toNat, by rw [Int.toNat_of_nonneg h3], by omega⟩
    cases cs with
    | nil =>
      have hmul : binD .mul (.int m) (.int 69621) = some (.int (m * 69621)) := mul_small (by decide) (by decide)
      have hmod : ∀ x, binD .mod (.int x) (.int 2147483647) = some (.int (x % 2147483647)) := fun x => by
        show some (D.int (x.fmod 2147483647)) = _
        rw [Int.fmod_eq_emod_of_nonneg _ (by decide)]
      have hdiv : ∀ x, binD .fdiv (.int x) (.int 128) = some (.int (x / 128)) := fun x => by
        show some (D.int (x.fdiv 128)) = _
        rw [Int.fdiv_eq_ediv_of_nonneg _ (by decide)]
      have hx1 : ixN [D.ref 0, D.int m].length 1 = some 1 := rfl
      simp [i10, ne_nil, int_int, i11, hmul, hmod, get1]
      have hs : ∀ x, (dealS [] m).set 1 (.lst ([.ref 0, D.int m].set 1 (.int x))) = dealS [] x := fun x => set1
      have hn0 := Int.emod_nonneg (m * 69621 + 41) (show (2147483647 : Int) ≠ 0 by decide)
      generalize (m * 69621 + 41) % 2147483647 = x at *
      exact ⟨1, rfl, .int x, by rw [hs]; exact i11, _, hdiv _, _, rfl, _, hmodb _, ⟨[], x, hs x, by simp, by simp, hn0⟩, hfin _⟩
    | cons c cs =>
      by_cases h0 : c = 0
      · subst h0
        simp [i10, i00, ne_nil, pop0 hl]
        refine ⟨rfl, ⟨cs, rfl, fun c h => hc c (List.mem_cons_of_mem _ h), by simp at hl; omega⟩, ?_⟩
        show (cs.map D.int).length < (((0 : Int) :: cs).map D.int).length
        simp
      · simp [i10, i00, ne_nil, h0]
        have hdivb : binD .fdiv (.int c) (.int (b : Int)) = some (.int (c / b)) := by
          show (Nb.binI .fdiv _ _).map D.int = _
          unfold Nb.binI
          dsimp only
          rw [if_pos (by unfold cDiv; simp; omega)]
          show some (D.int _) = _
          rw [Int.fdiv_eq_ediv_of_nonneg _ (by omega)]
        have hix : ixN ((c :: cs).map D.int).length 0 = some 0 := by
          have := ixN_nat (n := ((c :: cs).map D.int).length) (i := 0)
          rw [if_pos (by simp)] at this
          exact this
        have hc0 : 0 ≤ c := hc c List.mem_cons_self
        refine ⟨.int c, rfl, _, hdivb, _, get0, 0, hix, _, hmodb c, ⟨(c / b) :: cs, m, set0, fun x hx => ?_, by simpa using hl, hm0⟩, hfin c⟩
        rcases List.mem_cons.mp hx with rfl | hx
        · exact Int.ediv_nonneg hc0 (by omega)
        · exact hc x (List.mem_cons_of_mem _ hx)
  · show (cs.map D.int).length < fuelW
    rw [List.length_map]
    unfold fuelW
    omega
theorem c_from (hn : 2 ≤ n) {v : D} {xs : List D} (hq : Sq v xs) (h0 : xs ≠ []) (hd : Dl st) : wpR (C n "_law_from" [.ref 1, v] st) (fun d s => Dl s ∧ d ∈ xs) (fun _ _ _ => False) := by
  obtain ⟨n, rfl, hm⟩ := succ_of hn
  rw [C, u_l_from, wpR_outR]
  have hl : 1 ≤ xs.length := List.length_pos_iff.mpr h0
  simp [i_l_from, hq.len]
  refine (c_pick hm hl hq.small hd).to fun d s ⟨h1, k, e, hk⟩ => ?_
  subst e
  exact ⟨_, by rw [hq.idx, List.getElem?_eq_getElem hk], h1, List.getElem_mem hk⟩
theorem c_start (hn : 1 ≤ n) {ns : List Int} : wpR (C n "_law_start" [.clst (ns.map .int), .int 46] []) (fun d s => d = .ref 1 ∧ Dl s) (fun _ _ _ => False) := by
  obtain ⟨n, rfl, hm⟩ := succ_of hn
  rw [C, u_l_start, wpR_outR]
  have hsl : slcD (.clst (ns.map .int)) none (some 63) = some (.lst ((ns.take 63).map .int)) := by
    show some (D.lst (Nb.cutD _ _ _)) = _
    have e : slcD (.tup (ns.map .int)) none (some ((63 : Nat) : Int)) = some (.tup ((ns.map D.int).take 63)) := slc_toT
    have e2 : Nb.cutD (ns.map D.int) none (some (63 : Int)) = (ns.map D.int).take 63 := by
      have := Option.some.inj e
      injection this
    rw [e2, List.map_take]
  have hl63 : (ns.take 63).length ≤ 63 := by rw [List.length_take]; omega
  have hfew : ∀ l : List Int, l.length ≤ 63 → few (l.map D.int) = some (l.map D.int) := fun l h => few_of (by rw [big_eq, List.length_map]; omega)
  generalize ns.take 63 = ms at *
  simp only [i_l_start, w_scons, w_snil, w_asg, w_lc, w_seq, w_slc, w_var, w_no, w_so, w_kon]
  simp [hsl, hfew ms hl63]
  refine wp_lcmm (fun i => .int (if i < 0 then -i else i)) (fun i hi => ?_) ?_
  · simp [int_int, abs_int]
  · obtain ⟨cs, hcs, hc0, hcl⟩ : ∃ cs : List Int, (ms.map fun i => D.int (if i < 0 then -i else i)) = cs.map .int ∧ (∀ c ∈ cs, 0 ≤ c) ∧ cs.length ≤ 63 := by
      refine ⟨ms.map fun i => if i < 0 then -i else i, by rw [List.map_map]; rfl, fun c hc => ?_, by rw [List.length_map]; exact hl63⟩
      obtain ⟨i, _, rfl⟩ := List.mem_map.mp hc
      split <;> omega
    rw [hcs]
    have hmul0 : binD .mul (.int 7919) (.int 46) = some (.int 364274) := mul_small (by decide) (by decide)
    have hmod : ∀ x, binD .mod (.int x) (.int 2147483647) = some (.int (x % 2147483647)) := fun x => by
      show some (D.int (x.fmod 2147483647)) = _
      rw [Int.fmod_eq_emod_of_nonneg _ (by decide)]
    have hmod2 : ∀ x, binD .mod (.int x) (.int 2147483563) = some (.int (x % 2147483563)) := fun x => by
      show some (D.int (x.fmod 2147483563)) = _
      rw [Int.fmod_eq_emod_of_nonneg _ (by decide)]
    have hmul : ∀ m : Int, binD .mul (.int m) (.int 69621) = some (.int (m * 69621)) := fun m => mul_small (by decide) (by decide)
    have hpow : binD .pow (.int 10) (.int 18) = some (.int 1000000000000000000) := by rfl
    simp [hmul0, w_for, hfew cs hcl]
    refine wp_fori (fun i e s => s = [] ∧ ∃ a b : Int, ∃ c, e = [.va (.clst (ns.map .int)), .va (.int 46), .va (.lst (cs.map .int)), c, .va (.int b)] ∧ 0 ≤ b) ⟨rfl, 0, _, _, rfl, by decide⟩ (fun i v e s hv hI => ?_) fun e s hI => ?_
    · obtain ⟨rfl, a, b, c, rfl, hb⟩ := hI
      rw [List.getElem?_map] at hv
      obtain ⟨x, hx, rfl⟩ := Option.map_eq_some_iff.mp hv
      simp [hmul, hmod2, hmod, int_int]
      exact Int.emod_nonneg _ (by decide)
    · obtain ⟨rfl, a, b, c, rfl, hb⟩ := hI
      simp [hfew cs hcl]
      refine wp_lcp (fun d => match d with | D.int i => if (1000000000000000000 : Int) ≤ i then some (D.int i) else none | _ => none) (fun d hd => ?_) ?_
      · obtain ⟨i, _, rfl⟩ := List.mem_map.mp hd
        simp [hpow]
        by_cases h : (1000000000000000000 : Int) ≤ i <;> simp [h]
        omega
      · have e : (cs.map D.int).filterMap (fun d => match d with | D.int i => if (1000000000000000000 : Int) ≤ i then some (D.int i) else none | _ => none) = (cs.filter fun i => decide ((1000000000000000000 : Int) ≤ i)).map .int := by
          rw [List.filterMap_map, ← List.filterMap_eq_filter, List.map_filterMap]
          refine congrArg (fun f => List.filterMap f cs) (funext fun j => ?_)
          by_cases h : (1000000000000000000 : Int) ≤ j <;> simp [h, Option.guard]
        rw [e]
        have hfl : (cs.filter fun i => decide ((1000000000000000000 : Int) ≤ i)).length ≤ 63 := Nat.le_trans (List.length_filter_le _ _) hcl
        have hf0 : ∀ c ∈ (cs.filter fun i => decide ((1000000000000000000 : Int) ≤ i)), 0 ≤ c := fun c hc => hc0 c (List.mem_filter.mp hc).1
        generalize (cs.filter fun i => decide ((1000000000000000000 : Int) ≤ i)) = fs at *
        simp [newD, big_eq]
        exact ⟨fs, b, rfl, hf0, hfl, hb⟩

/-- ascending numbers below a bound -/
structure Asc (N : Nat) (r : List Nat) : Prop where
  pw : r.Pairwise (· < ·)
  lt : ∀ j ∈ r, j < N
theorem Asc.len {N : Nat} {r : List Nat} (h : Asc N r) : r.length ≤ N := by
  have := asc_len (N := N) r 0 h.pw fun j hj => ⟨Nat.zero_le _, h.lt j hj⟩
  simpa using this
theorem asc_filter {N : Nat} {p : Nat → Bool} : Asc N ((List.range N).filter p) := ⟨List.pairwise_lt_range.filter _, fun j hj => List.mem_range.mp (List.mem_filter.mp hj).1⟩
/-- [at for at in range(N) if pick(deal, b) == 0] -/
theorem c_draws {m : Nat} (hn : 1 ≤ n) {N : Nat} (hN : N ≤ 256) {f : D → Sto → Res (Option D)} {Q : List D → Sto → Prop} {X : Str → List (Str × D) → Sto → Prop} (hd : Dl st)
    (hf : ∀ (i : Nat) s, i < N → Dl s → wpR (f (.int (i : Int)) s) (fun o s' => Dl s' ∧ (o = none ∨ o = some (.int (i : Int)))) (fun _ _ _ => False)) (hQ : ∀ r s, Asc N r → Dl s → Q (natD r) s) : wpR (lcLoop f (natD (List.range N)) st) Q X := by
  refine wp_lci (fun i out s => Dl s ∧ ∃ r : List Nat, out = natD r ∧ r.Pairwise (· < ·) ∧ ∀ j ∈ r, j < i) ⟨hd, [], rfl, List.Pairwise.nil, by simp⟩ (fun i out d s hv hI => ?_) fun out s hI => ?_
  · obtain ⟨x, hx, rfl⟩ := natD_get hv
    obtain ⟨hi, he⟩ := List.getElem?_eq_some_iff.mp hx
    rw [List.getElem_range] at he
    subst he
    rw [List.length_range] at hi
    obtain ⟨hd2, r, rfl, hr1, hr2⟩ := hI
    refine (hf i s hi hd2).to fun o s1 ⟨hd3, ho⟩ => ?_
    rcases ho with rfl | rfl
    · exact ⟨hd3, r, by simp, hr1, fun j hj => by have := hr2 j hj; omega⟩
    · refine ⟨hd3, r ++ [i], by simp [natD], ?_, fun j hj => ?_⟩
      · rw [List.pairwise_append]
        refine ⟨hr1, by simp, fun a ha b hb => ?_⟩
        rw [List.mem_singleton] at hb
        subst hb
        exact hr2 a ha
      · rcases List.mem_append.mp hj with hj | hj
        · have := hr2 j hj; omega
        · rw [List.mem_singleton] at hj; omega
  · obtain ⟨hd2, r, rfl, hr1, hr2⟩ := hI
    rw [natD_len, List.length_range] at hr2
    exact hQ r s ⟨hr1, hr2⟩ hd2
theorem tab7 {s : Sto} {m : Nat} (hm : m ≤ 6) : idxD s (.lst [.int 1, .int 2, .int 4, .int 8, .int 16, .int 32, .int 64]) (.int (m : Int)) = some (.int (two m : Int)) := by
  rcases (show m = 0 ∨ m = 1 ∨ m = 2 ∨ m = 3 ∨ m = 4 ∨ m = 5 ∨ m = 6 by omega) with rfl | rfl | rfl | rfl | rfl | rfl | rfl <;> rfl
theorem form_at {s : Sto} {q : Nat} (hq : q < 6) : ∃ b : Nat, idxD s (.lst [.int 2, .int 4, .int 8, .int 2, .int 8, .int 16]) (.int (q : Int)) = some (.int (b : Int)) ∧ 1 ≤ b ∧ b ≤ 1000 := by
  rcases (show q = 0 ∨ q = 1 ∨ q = 2 ∨ q = 3 ∨ q = 4 ∨ q = 5 by omega) with rfl | rfl | rfl | rfl | rfl | rfl
  · exact ⟨2, rfl, by decide, by decide⟩
  · exact ⟨4, rfl, by decide, by decide⟩
  · exact ⟨8, rfl, by decide, by decide⟩
  · exact ⟨2, rfl, by decide, by decide⟩
  · exact ⟨8, rfl, by decide, by decide⟩
  · exact ⟨16, rfl, by decide, by decide⟩
theorem sum_set {s : Sto} {m i : Nat} : biD s .sum [setT m i] = some (.int (S m i).sum) := by
  show ((asInts ((S m i).map D.int)).map fun ns => D.int ns.sum) = _
  rw [asI_map]; rfl
theorem form23 {s : Sto} {q : Nat} (hq : q < 6) : cmpD s .inn (.int (q : Int)) (.lst [.int 2, .int 3]) = some (decide (q = 2 ∨ q = 3)) := by
  rcases (show q = 0 ∨ q = 1 ∨ q = 2 ∨ q = 3 ∨ q = 4 ∨ q = 5 by omega) with rfl | rfl | rfl | rfl | rfl | rfl <;> rfl
theorem ssrt_zero {s : Sto} {N : Nat} {r : List Nat} (h : Asc N r) (hN : N ≤ 256) (h0 : 0 < N) : ∃ r', biD s .ssrt [.lst (natD (r ++ [0]))] = some (rowD r') ∧ Asc N r' := by
  have hl := h.len
  obtain ⟨z, hz⟩ : ∃ z, z = sortBy id (dedupZ ((r ++ [0]).map fun x : Nat => (x : Int))) := ⟨_, rfl⟩
  have hmem : ∀ k, k ∈ z ↔ k ∈ (r ++ [0]).map fun x : Nat => (x : Int) := fun k => by rw [hz, (sortBy_perm id _).mem_iff, dedupZ_mem]
  have hnd : z.Nodup := by rw [hz]; exact (sortBy_perm id _).nodup_iff.mpr dedupZ_nd
  have hpw := sortBy_pw id (dedupZ ((r ++ [0]).map fun x : Nat => (x : Int)))
  rw [← hz] at hpw
  have hcast : (z.map Int.toNat).map (fun x : Nat => (x : Int)) = z := by
    rw [List.map_map]
    have : ∀ i ∈ z, ((fun x : Nat => (x : Int)) ∘ Int.toNat) i = i := fun i hi => by
      obtain ⟨x, _, rfl⟩ := List.mem_map.mp ((hmem i).mp hi)
      simp
    rw [List.map_congr_left this, List.map_id']
  refine ⟨z.map Int.toNat, ?_, ?_, fun j hj => ?_⟩
  · show (match asInts (natD (r ++ [0])) with
      | some ns => if ns.length ≤ 4000 then some (D.lst ((sortBy id (dedupZ ns)).map .int)) else none
      | none => _) = _
    unfold natD
    rw [asI_map]
    show (if ((r ++ [0]).map fun x : Nat => (x : Int)).length ≤ 4000 then _ else none) = _
    rw [if_pos (by rw [List.length_map, List.length_append]; simp; omega), ← hz]
    unfold rowD natD
    rw [hcast]
  · rw [List.pairwise_map]
    rw [List.nodup_iff_pairwise_ne] at hnd
    refine (hpw.and hnd).imp_of_mem fun {a b} ha hb h => ?_
    obtain ⟨x, _, rfl⟩ := List.mem_map.mp ((hmem a).mp ha)
    obtain ⟨y, _, rfl⟩ := List.mem_map.mp ((hmem b).mp hb)
    have h1 := h.1
    have h2 := h.2
    simp only [id] at h1
    simp
    omega
  · obtain ⟨i, hi, rfl⟩ := List.mem_map.mp hj
    obtain ⟨x, hx, rfl⟩ := List.mem_map.mp ((hmem i).mp hi)
    simp
    rcases List.mem_append.mp hx with hx | hx
    · exact h.lt x hx
    · rw [List.mem_singleton.mp hx]; exact h0
end T46
end
section
set_option Elab.async false
set_option linter.all false
set_option maxRecDepth 100000
set_option maxHeartbeats 4000000
namespace T46
open PySem PySem.Spec PyProof.Rows L2 Nb M46
variable {n : Nat} {st : Sto}
theorem c_some (hn : 3 ≤ n) {m : Nat} (h1 : 1 ≤ m) (h6 : m ≤ 6) (hd : Dl st) : wpR (C n "_law_some" [.ref 1, .int (m : Int)] st) (fun d s => Dl s ∧ ∃ r, d = rowD r ∧ Row m r) (fun _ _ _ => False) := by
  obtain ⟨n, rfl, hn2⟩ := succ_of hn
  rw [C, u_l_some, wpR_outR]
  have hp := two_le (m := m) (by omega)
  have hp0 : 0 < two m := Nat.two_pow_pos m
  have hrg := rng_nat (show two m ≤ 1000000 by omega)
  unfold i_l_some
  rw [w_scons]
  simp [-w_scons, tab7 h6, big_eq]
  refine (c_pick (b := 6) (show 1 ≤ n by omega) (by decide) (by decide) hd).to fun d s ⟨hd1, q, e, hq⟩ => ?_
  subst e
  try simp [-w_scons]
  rw [w_scons]
  obtain ⟨b, hb0, hb1, hb2⟩ := form_at (s := s) hq
  have hb : ∀ s, idxD s (.lst [.int 2, .int 4, .int 8, .int 2, .int 8, .int 16]) (.int (q : Int)) = some (.int (b : Int)) := fun s => hb0
  simp [-w_scons, hrg]
  refine c_draws (m := m) (show 1 ≤ n by omega) (by omega) hd1 (fun i s hi hds => ?_) fun r s hr hd2 => ?_
  · simp [hb, big_eq]
    refine (c_pick (show 1 ≤ n by omega) hb1 hb2 hds).to fun d s1 ⟨hd3, z, e, _⟩ => ?_
    subst e
    by_cases hz : z = 0
    · subst hz; simp [hd3]
    · have hz' : ¬ (z : Int) = 0 := by omega
      simp [hz, hd3]
  rw [w_scons]
  -- the complement
  refine wpS.nxt (N := fun e s' => Dl s' ∧ ∃ r a, Asc (two m) r ∧ e = [.va (.ref 1), .va (.int (m : Int)), .va (.int (two m : Int)), .va (.int (q : Int)), .va (rowD r), a, .no, .no, .no, .no]) ?_ fun e s' hN => ?_
  · simp [form23 hq, big_eq]
    by_cases h23 : q = 2 ∨ q = 3
    · have hx : ((q : Int) = 2 ∨ (q : Int) = 3) := by omega
      simp [h23, hrg]
      refine .inr (wp_lcNf (fun x => !decide (x ∈ r)) (fun x hx => ?_) ?_)
      · have hni : ∀ s, cmpD s .nin (.int (x : Int)) (.lst (natD r)) = some (!decide (x ∈ r)) := fun s => congrArg (Option.map (!·)) (in_row (s := s))
        simp [hni]
        by_cases h : x ∈ r <;> simp [h]
      · exact ⟨hd2, _, asc_filter, rfl⟩
    · simp [h23]
      exact ⟨by omega, hd2, r, hr, rfl⟩
  obtain ⟨hd3, r, a, hr, rfl⟩ := hN
  dsimp only
  rw [w_scons]
  -- layers
  refine wpS.nxt (N := fun e s' => Dl s' ∧ ∃ r a b c d f, Asc (two m) r ∧ e = [.va (.ref 1), .va (.int (m : Int)), .va (.int (two m : Int)), .va (.int (q : Int)), .va (rowD r), a, b, c, d, f]) ?_ fun e s' hN => ?_
  · by_cases h3 : 3 < q
    · have h3' : (3 : Int) < (q : Int) := by omega
      have hrm : (rngD [.int ((m : Int) + 1)]).bind few = some (natD (List.range (m + 1))) := rng_nat (show m + 1 ≤ 1000000 by omega)
      simp [-w_scons, h3']
      rw [w_scons]
      simp [-w_scons, hrm]
      refine c_draws (m := m) (show 1 ≤ n by omega) (by omega) hd3 (fun i s hi hds => ?_) fun ly s hly hd4 => ?_
      · simp
        refine (c_pick (b := 2) (show 1 ≤ n by omega) (by decide) (by decide) hds).to fun d s1 ⟨hd3, z, e, _⟩ => ?_
        subst e
        by_cases hz : z = 0
        · subst hz; simp [hd3]
        · have hz' : ¬ (z : Int) = 0 := by omega
          simp [hz, hd3]
      have hfa : few (allS m) = some (allS m) := few_of (by unfold allS; rw [List.length_map, List.length_range, big_eq]; exact Nat.le_trans hp (by decide))
      rw [w_scons]
      simp [-w_scons, c_l_all (show 1 ≤ n by omega) h6, hfa]
      unfold allS
      refine wp_lcmm (fun i : Nat => .int (S m i).sum) (fun i hi => ?_) ?_
      · simp [sum_set]
      simp [hrg]
      refine wp_lcNf (fun x => (decide ((S m x).sum ∈ ly.map fun i : Nat => (i : Int))) != decide (x ∈ r)) (fun x hx => ?_) ?_
      · have hx := List.mem_range.mp hx
        have hix : ∀ s, idxD s (.lst ((List.range (2 ^ m)).map fun i : Nat => D.int (S m i).sum)) (.int (x : Int)) = some (.int (S m x).sum) := fun s => by
          show atI _ _ = _
          rw [atI_cast, List.getElem?_map, List.getElem?_range (show x < 2 ^ m from hx)]; rfl
        have hin1 : ∀ s, cmpD s .inn (.int (S m x).sum) (.lst (natD ly)) = some (decide ((S m x).sum ∈ ly.map fun i : Nat => (i : Int))) := fun s => in_ints (s := s)
        have hin2 : ∀ s, cmpD s .inn (.int (x : Int)) (rowD r) = some (decide (x ∈ r)) := fun s => in_row (s := s)
        obtain ⟨b1, hb1⟩ : ∃ b1, b1 = decide ((S m x).sum ∈ ly.map fun i : Nat => (i : Int)) := ⟨_, rfl⟩
        obtain ⟨b2, hb2⟩ : ∃ b2, b2 = decide (x ∈ r) := ⟨_, rfl⟩
        rw [← hb1] at hin1 ⊢
        rw [← hb2] at hin2 ⊢
        simp [hix, hin1, hin2, cm_neb]
        cases b1 <;> cases b2 <;> simp
      · exact ⟨hd4, _, asc_filter, rfl⟩
    · have h3' : ¬ (3 : Int) < (q : Int) := by omega
      simp [h3']
      exact ⟨hd3, r, hr, rfl⟩
  obtain ⟨hd4, r, a, b', c, d, f, hr, rfl⟩ := hN
  dsimp only
  rw [w_scons]
  -- with 0
  refine wpS.nxt (N := fun e s' => Dl s' ∧ ∃ r a b c d f, Asc (two m) r ∧ e = [.va (.ref 1), .va (.int (m : Int)), .va (.int (two m : Int)), .va (.int (q : Int)), .va (rowD r), a, b, c, d, f]) ?_ fun e s' hN => ?_
  · simp [-w_scons]
    refine (c_pick (b := 4) (show 1 ≤ n by omega) (by decide) (by decide) hd4).to fun d s1 ⟨hd5, z, e, _⟩ => ?_
    subst e
    by_cases hz : z = 0
    · subst hz
      simp
      exact ⟨hd5, r, hr, rfl⟩
    · have hz' : ¬ (z : Int) = 0 := by omega
      obtain ⟨r', hs', hr'⟩ := ssrt_zero (s := s1) hr (by omega) hp0
      have hadd : binD .add (rowD r) (.lst [.int 0]) = some (.lst (natD (r ++ [0]))) := add_nats (ys := [0]) (by have := hr.len; simp; omega)
      simp [hz, big_eq, hadd, hs']
      exact ⟨hd5, r', hr', rfl⟩
  obtain ⟨hd5, r, a, b', c, d, f, hr, rfl⟩ := hN
  dsimp only
  rw [w_scons]
  simp [big_eq, ne_nilL]
  by_cases hr0 : r = []
  · simp [hr0]
    refine (c_pick (show 1 ≤ n by omega) (show 1 ≤ two m by omega) (by omega) hd5).to fun d s1 ⟨hd3, z, e, hz⟩ => ?_
    subst e
    exact ⟨hd3, [z], rfl, by simp, by simp; exact hz, by simp⟩
  · simp [hr0]
    exact ⟨hd5, r, rfl, hr.pw, hr.lt, hr0⟩
end T46
end
section
set_option Elab.async false
set_option linter.all false
set_option maxRecDepth 100000
set_option maxHeartbeats 4000000
namespace T46
open PySem PySem.Spec PyProof.Rows L2 Nb M46
variable {n m : Nat} {st : Sto}
def NoSet (d : D) (s : Sto) : Prop := Dl s ∧ ∃ v k, d = .tup [v, .int k] ∧ pl3 v = true ∧ lotA v = .ex "InvalidLot" "at" (.int k) ∧ -1 ≤ k ∧ k ≤ 300
theorem NoSet.mk {s : Sto} {v : D} {k : Int} (h1 : Dl s) (h2 : pl3 v = true) (h3 : lotA v = .ex "InvalidLot" "at" (.int k)) (h4 : -1 ≤ k := by omega) (h5 : k ≤ 300 := by omega) : NoSet (.tup [v, .int k]) s := ⟨h1, v, k, rfl, h2, h3, h4, h5⟩
theorem c_no_settings (hn : 3 ≤ n) (h1 : 1 ≤ m) (h6 : m ≤ 6) {r : List Nat} (hr : Row m r) (hd : Dl st) :
    wpR (C n "_law_no_settings" [.ref 1, grpD m r] st) NoSet (fun _ _ _ => False) := by
  obtain ⟨n, rfl, hm⟩ := succ_of hn
  rw [C, u_l_no_settings, wpR_outR]
  have h4 : m ≤ 8 := by omega
  have hp16 : 2 ^ m ≤ 256 := Nat.pow_le_pow_right (by decide) h4
  have hrl := hr.len
  have hpos : 1 ≤ r.length := List.length_pos_iff.mpr hr.ne
  have hlen : ∀ s, biD s .len [grpD m r] = some (.int (r.length : Int)) := fun s => by unfold grpD; simp
  unfold i_l_no_settings
  rw [w_scons]
  simp [-w_scons, hlen]
  refine (c_pick (show 1 ≤ n by omega) hpos (by omega) hd).to fun d s ⟨hd1, k, e, hk⟩ => ?_
  subst e
  try simp [-w_scons]
  refine (c_pick (b := 5) (show 1 ≤ n by omega) (by decide) (by decide) hd1).to fun d s ⟨hd2, q, e, hq⟩ => ?_
  subst e
  try simp [-w_scons]
  have hent : ∀ s, idxD s (grpD m r) (.int (k : Int)) = some (setT m r[k]) := fun s => by
    rw [idx_t (v := grpD m r) rfl, grp_get hk]
  have hSl : ∀ i, (S m i).length = m := fun i => by unfold S; simp
  have hle : ∀ s, biD s .len [setT m r[k]] = some (.int (m : Int)) := fun s => by unfold setT tupI; simp [hSl]
  rw [w_scons]
  simp [-w_scons, hent]
  rw [w_scons]
  simp [-w_scons, hle]
  refine (c_pick (show 1 ≤ n by omega) h1 (by omega) hd2).to fun d s ⟨hd3, p, e, hp⟩ => ?_
  subst e
  try simp [-w_scons]
  have hgt : itemsD (grpD m r) = some (r.map (setT m)) := rfl
  have hgl : (r.map (setT m)).length = r.length := List.length_map _
  have hb2 : 2 ≤ big := by rw [big_eq]; omega
  have hb6 : 6 ≤ big := by rw [big_eq]; omega
  have hb1 : 1 ≤ big := by rw [big_eq]; omega
  have hb3 : 3 ≤ big := by rw [big_eq]; omega
  have hb5 : 5 ≤ big := by rw [big_eq]; omega
  have hb4 : 4 ≤ big := by rw [big_eq]; omega
  have tk : ∀ j : Nat, slcD (grpD m r) none (some (j : Int)) = some (.tup ((r.map (setT m)).take j)) := fun j => slc_toT
  have dr : ∀ j : Nat, slcD (grpD m r) (some (j : Int)) none = some (.tup ((r.map (setT m)).drop j)) := fun j => slc_fromT
  rw [w_scons]
  by_cases q0 : q = 0
  · subst q0
    have hls : ∀ s, biD s .lst [grpD m r] = some (.lst (r.map (setT m))) := fun s => rfl
    refine wpS.ret ?_
    simp [hls, hb5, hb2, hb1]
    refine (c_from (v := .lst [.non, .tup [], .lst (r.map (setT m)), .str "0", .int 1]) (show 2 ≤ n by omega) (.lst (by simp)) (by simp) hd3).to fun d s ⟨hd4, hx⟩ => ?_
    simp only [List.mem_cons, List.not_mem_nil, or_false] at hx
    rcases hx with rfl | rfl | rfl | rfl | rfl <;> exact .mk hd4 (by rfl) (by rfl)
  have q0' : ¬ (q : Int) = 0 := by omega
  simp [-w_scons, q0, q0']
  rw [w_scons]
  by_cases q1 : q = 1
  · subst q1
    have t1 := tk (k + 1)
    have t2 := dr k
    have ad : binD .add (.tup ((r.map (setT m)).take (k + 1))) (.tup ((r.map (setT m)).drop k)) = some (.tup ((r.map (setT m)).take (k + 1) ++ (r.map (setT m)).drop k)) := add_tup (by rw [List.length_take, List.length_drop, hgl]; omega)
    rw [show ((k + 1 : Nat) : Int) = (k : Int) + 1 by omega] at t1
    generalize hA : (r.map (setT m)).take (k + 1) = A at *
    generalize hB : (r.map (setT m)).drop k = B at *
    refine wpS.ret ?_
    simp [t1, t2, ad, hb2]
    refine .mk hd3 (pl3_of (fun x hx => ?_) ?_) ?_
    · rcases List.mem_append.mp hx with hx | hx
      · rw [← hA] at hx; exact g_pl2 h4 x (List.mem_of_mem_take hx)
      · rw [← hB] at hx; exact g_pl2 h4 x (List.mem_of_mem_drop hx)
    · rw [← hA, ← hB, List.length_append, List.length_take, List.length_drop, hgl]; omega
    · rw [← hA, ← hB]; exact lot_twice h1 h4 hr hk
  have q1' : ¬ (q : Int) = 1 := by omega
  simp [-w_scons, q1, q1']
  -- wrong, by place
  rw [w_scons]
  obtain ⟨es, hes⟩ : ∃ es, es = (S m r[k]).map D.int := ⟨_, rfl⟩
  have hsd : setT m r[k] = .tup es := by rw [hes]; rfl
  have hel : es.length = m := by rw [hes, List.length_map, hSl]
  have hpe : ∀ x ∈ es, plainD x = true := fun x hx => by
    rw [hes] at hx
    obtain ⟨i, _, rfl⟩ := List.mem_map.mp hx
    rfl
  have tke : ∀ j : Nat, slcD (setT m r[k]) none (some (j : Int)) = some (.tup (es.take j)) := fun j => by rw [hsd]; exact slc_toT
  have dre : ∀ j : Nat, slcD (setT m r[k]) (some (j : Int)) none = some (.tup (es.drop j)) := fun j => by rw [hsd]; exact slc_fromT
  have drp := dre (p + 1)
  rw [show ((p + 1 : Nat) : Int) = (p : Int) + 1 by omega] at drp
  have tkp := tke p
  refine wpS.nxt (N := fun e s' => Dl s' ∧ ∃ w, e = [.va (.ref 1), .va (grpD m r), .va (.int (k : Int)), .va (.int (q : Int)), .va (setT m r[k]), .va (.int (p : Int)), .va w] ∧ pl2 w = true ∧ wrongE m k w) ?_ (fun e s' ⟨hd4, w, he, hw1, hw2⟩ => ?_)
  · simp [tkp, hb5]
    refine (c_from (v := .lst [.int 2, .int (-1), .bl true, .non, .str "0"]) (show 2 ≤ n by omega) (.lst (by simp)) (by simp) hd3).to fun d s ⟨hd4, hx⟩ => ?_
    have hxp : plainD d = true ∧ belB d 2 = false := by
      simp only [List.mem_cons, List.not_mem_nil, or_false] at hx
      rcases hx with rfl | rfl | rfl | rfl | rfl <;> exact ⟨by rfl, by rfl⟩
    have ad1 : binD .add (.tup (es.take p)) (.tup [d]) = some (.tup (es.take p ++ [d])) := add_tup (by rw [List.length_take]; simp; omega)
    have ad2 : binD .add (.tup (es.take p ++ [d])) (.tup (es.drop (p + 1))) = some (.tup (es.take p ++ [d] ++ es.drop (p + 1))) := add_tup (by rw [List.length_append, List.length_take, List.length_drop]; simp; omega)
    have hw1 : pl2 (.tup (es.take p ++ [d] ++ es.drop (p + 1))) = true := pl2_tup (fun x hx => by
      rcases List.mem_append.mp hx with hx | hx
      · rcases List.mem_append.mp hx with hx | hx
        · exact hpe x (List.mem_of_mem_take hx)
        · rw [List.mem_singleton] at hx; rw [hx]; exact hxp.1
      · exact hpe x (List.mem_of_mem_drop hx)) (by rw [List.length_append, List.length_append, List.length_take, List.length_drop]; simp; omega)
    have hw2 : wrongE m k (.tup (es.take p ++ [d] ++ es.drop (p + 1))) := .inl (not_bits (x := d) (by simp) hxp.2)
    generalize es.take p ++ [d] ++ es.drop (p + 1) = W at *
    generalize es.take p ++ [d] = V at *
    generalize es.take p = A at *
    generalize es.drop (p + 1) = B at *
    simp [ad1, hb1, drp, ad2]
    exact ⟨hd4, hw1, hw2⟩
  subst he
  dsimp only
  -- wrong, by length
  rw [w_scons]
  refine wpS.nxt (N := fun e s' => Dl s' ∧ ∃ w, e = [.va (.ref 1), .va (grpD m r), .va (.int (k : Int)), .va (.int (q : Int)), .va (setT m r[k]), .va (.int (p : Int)), .va w] ∧ pl2 w = true ∧ wrongE m k w) ?_ (fun e s' ⟨hd5, w, he, hw1, hw2⟩ => ?_)
  · by_cases h3 : q = 2 ∧ 0 < k
    · obtain ⟨rfl, hk0⟩ := h3
      have hk0' : (0 : Int) < (k : Int) := by omega
      have sl : slcD (setT m r[k]) none (some (-1)) = some (.tup es.dropLast) := by rw [hsd]; exact slc_drop1
      have ad1 : binD .add (setT m r[k]) (.tup [.int 1]) = some (.tup (es ++ [.int 1])) := by rw [hsd]; exact add_tup (by simp; omega)
      simp [hk0', sl, hb1, ad1, hb2]
      refine .inr ⟨hk0, ?_⟩
      refine (c_from (v := .lst [.tup es.dropLast, .tup (es ++ [.int 1])]) (show 2 ≤ n by omega) (.lst (by simp)) (by simp) hd4).to fun d s ⟨hd4, hx⟩ => ?_
      refine ⟨hd4, ?_⟩
      have key : ∀ L : List Int, L.length ≠ m → L.length ≤ 1000 → pl2 (tupI L) = true ∧ wrongE m k (tupI L) := fun L h1 h2 => ⟨pl2_tupI h2, .inr (.inr ⟨by omega, by rw [intsD_tupI]; exact h1⟩)⟩
      simp only [List.mem_cons, List.not_mem_nil, or_false] at hx
      rcases hx with rfl | rfl
      · have e : D.tup es.dropLast = tupI (S m r[k]).dropLast := by rw [hes, ← List.map_dropLast]; rfl
        rw [e]
        exact key _ (by rw [List.length_dropLast, hSl]; omega) (by rw [List.length_dropLast, hSl]; omega)
      · have e : D.tup (es ++ [.int 1]) = tupI (S m r[k] ++ [1]) := by unfold tupI; rw [hes, List.map_append]; rfl
        rw [e]
        exact key _ (by rw [List.length_append, hSl]; simp) (by rw [List.length_append, hSl]; simp; omega)
    · by_cases h : (q : Int) = 2
      · have h0 : ¬ (0 : Int) < (k : Int) := by omega
        have hq3 : q = 2 := by omega
        subst hq3
        simp [h0]
        left
        exact ⟨by omega, hd4, hw1, hw2⟩
      · have hq3 : ¬ q = 2 := by omega
        simp [h, hq3]
        exact ⟨hd4, hw1, hw2⟩
  subst he
  dsimp only
  -- no tuple at all
  rw [w_scons]
  refine wpS.nxt (N := fun e s' => Dl s' ∧ ∃ w, e = [.va (.ref 1), .va (grpD m r), .va (.int (k : Int)), .va (.int (q : Int)), .va (setT m r[k]), .va (.int (p : Int)), .va w] ∧ pl2 w = true ∧ wrongE m k w) ?_ (fun e s' ⟨hd6, w, he, hw1, hw2⟩ => ?_)
  · by_cases h3 : q = 3
    · subst h3
      have hls : ∀ s, biD s .lst [setT m r[k]] = some (.lst es) := fun s => by rw [hsd]; simp
      simp [hls, hb4]
      refine (c_from (v := .lst [.lst es, .non, .int 0, .tup []]) (show 2 ≤ n by omega) (.lst (by simp)) (by simp) hd5).to fun d s ⟨hd4, hx⟩ => ?_
      refine ⟨hd4, ?_⟩
      simp only [List.mem_cons, List.not_mem_nil, or_false] at hx
      rcases hx with rfl | rfl | rfl | rfl
      · exact ⟨by rfl, .inl (by rfl)⟩
      · exact ⟨by rfl, .inl (by rfl)⟩
      · exact ⟨by rfl, .inl (by rfl)⟩
      · exact ⟨by rfl, .inr (.inl (by rfl))⟩
    · have : ¬ (q : Int) = 3 := by omega
      simp [h3, this]
      exact ⟨hd5, hw1, hw2⟩
  subst he
  dsimp only
  -- the value
  have tkk := tk k
  have drk := dr (k + 1)
  rw [show ((k + 1 : Nat) : Int) = (k : Int) + 1 by omega] at drk
  have ad1 : binD .add (.tup ((r.map (setT m)).take k)) (.tup [w]) = some (.tup ((r.map (setT m)).take k ++ [w])) := add_tup (by rw [List.length_take, hgl]; simp; omega)
  have ad2 : binD .add (.tup ((r.map (setT m)).take k ++ [w])) (.tup ((r.map (setT m)).drop (k + 1))) = some (.tup ((r.map (setT m)).take k ++ w :: (r.map (setT m)).drop (k + 1))) := by
    rw [add_tup (by rw [List.length_append, List.length_take, List.length_drop, hgl]; simp; omega)]
    simp
  have hlW : ((r.map (setT m)).take k ++ w :: (r.map (setT m)).drop (k + 1)).length = r.length := by rw [List.length_append, List.length_take, List.length_cons, List.length_drop, hgl]; omega
  have hmem : ∀ x ∈ (r.map (setT m)).take k ++ w :: (r.map (setT m)).drop (k + 1), pl2 x = true := fun x hx => by
    rcases List.mem_append.mp hx with hx | hx
    · exact g_pl2 h4 x (List.mem_of_mem_take hx)
    · rcases List.mem_cons.mp hx with rfl | hx
      · exact hw1
      · exact g_pl2 h4 x (List.mem_of_mem_drop hx)
  have lot1 := lot_wrong h1 h4 hr hk (rest := (r.map (setT m)).drop (k + 1)) hw2
  have hpl1 : pl3 (.tup ((r.map (setT m)).take k ++ w :: (r.map (setT m)).drop (k + 1))) = true := pl3_of hmem (by rw [hlW]; omega)
  clear hmem
  generalize (r.map (setT m)).take k ++ w :: (r.map (setT m)).drop (k + 1) = W at *
  generalize (r.map (setT m)).take k ++ [w] = V at *
  generalize (r.map (setT m)).take k = A at *
  generalize (r.map (setT m)).drop (k + 1) = B at *
  simp [tkk, drk, ad1, ad2, hb1, hb2]
  exact .mk hd6 hpl1 lot1
end T46
end
section
set_option Elab.async false
set_option linter.all false
set_option maxRecDepth 100000
set_option maxHeartbeats 4000000
namespace Nb
open PySem PySem.Spec PyProof.Rows L2
section
variable {T : Tb} {cl : Cl} {e : Enw} {st : Sto} {P : Po}
theorem w_tri {b : Ss} {hs : Hs} : wpS (exs T cl (.tri b hs) e st) P ↔ Hs.hnB T hs = true ∧ wpS (exss T cl b e st) { P with ex := fun c fs e s => wpS (exh T cl hs c fs e s) P } := by
  simp only [exs]
  cases h : Hs.hnB T hs with
  | false => simp
  | true =>
    simp
    cases exss T cl b e st <;> simp
theorem w_exhR {c c' : Str} {fs : List (Str × D)} {i : Nat} {b : Ss} {hs : Hs} (h1 : T.hn c = true) (h2 : T.hn c' = true) (h3 : T.sub c c' = true)
    (h : wpS (exss T cl b (e.set i (.er c fs)) st) ⟨fun _ _ => False, P.rt, fun _ _ _ _ => False, fun _ _ => False, fun _ _ => False⟩) : wpS (exh T cl (.cons c' (some i) b hs) c fs e st) P := by
  simp only [exh, h1, h2, h3]
  cases o : exss T cl b (e.set i (.er c fs)) st <;> rw [o] at h <;> first | exact h.elim | exact h
end
end Nb
namespace T46
open PySem PySem.Spec PyProof.Rows L2 Nb M46
variable {n m : Nat} {st : Sto}
section
variable {v x : D}
theorem bad_alternation (hn : 7 ≤ n) (hp : pl3 v = true) (h : lotA v = .ex "InvalidLot" "at" x) : C n "alternation" [v] st = .exc "InvalidLot" [("at", x)] st := by
  obtain ⟨n, rfl, hn2⟩ := succ_of hn
  rw [C, u_alternation]
  have hc := fun s => c_need_settings (n := n) (st := s) hn2 hp
  rw [h] at hc
  refine eq_res (a := .ex "InvalidLot" "at" x) ?_
  rw [wpR_outR]
  unfold i_alternation
  rw [w_scons]
  simp [-w_scons, hc]
theorem bad_hits (hn : 7 ≤ n) (hp : pl3 v = true) (h : lotA v = .ex "InvalidLot" "at" x) : C n "hit_wires" [v] st = .exc "InvalidLot" [("at", x)] st := by
  obtain ⟨n, rfl, hn2⟩ := succ_of hn
  rw [C, u_hit_wires]
  have hc := fun s => c_need_settings (n := n) (st := s) hn2 hp
  rw [h] at hc
  refine eq_res (a := .ex "InvalidLot" "at" x) ?_
  rw [wpR_outR]
  unfold i_hit_wires
  rw [w_scons]
  simp [-w_scons, hc]
theorem bad_parts (hn : 7 ≤ n) (hp : pl3 v = true) (h : lotA v = .ex "InvalidLot" "at" x) : C n "meeting_parts" [v] st = .exc "InvalidLot" [("at", x)] st := by
  obtain ⟨n, rfl, hn2⟩ := succ_of hn
  rw [C, u_meeting_parts]
  have hc := fun s => c_need_settings (n := n) (st := s) hn2 hp
  rw [h] at hc
  refine eq_res (a := .ex "InvalidLot" "at" x) ?_
  rw [wpR_outR]
  unfold i_meeting_parts
  rw [w_scons]
  simp [-w_scons, hc]
theorem kw_parts {cl : Cl} {ps : List Str} {s : Sto} {d : D} (hps : ps.length = 1) : calD pk.T cl "meeting_parts" ps ["settings"] [d] s = cl "meeting_parts" [d] s :=
  calD_kw (p := [0]) (by rfl) (by rfl) (by rw [hps]; rfl)
theorem kw_hits {cl : Cl} {ps : List Str} {s : Sto} {d : D} (hps : ps.length = 1) : calD pk.T cl "hit_wires" ps ["settings"] [d] s = cl "hit_wires" [d] s :=
  calD_kw (p := [0]) (by rfl) (by rfl) (by rw [hps]; rfl)
theorem kw_alt {cl : Cl} {ps : List Str} {s : Sto} {d : D} (hps : ps.length = 1) : calD pk.T cl "alternation" ps ["settings"] [d] s = cl "alternation" [d] s :=
  calD_kw (p := [0]) (by rfl) (by rfl) (by rw [hps]; rfl)
theorem c_heard (hn : 8 ≤ n) {k : Nat} (hk : k < 3) (hp : pl3 v = true) (h : lotA v = .ex "InvalidLot" "at" x) : C n "_law_heard" [.int (k : Int), v] st = .ok x st := by
  obtain ⟨n, rfl, hn2⟩ := succ_of hn
  rw [C, u_l_heard, ← wpR_eq, wpR_outR]
  unfold i_l_heard
  rw [w_scons, w_tri]
  refine ⟨by rfl, ?_⟩
  have hx : ∀ (P : Po) (a b : Sl), P.rt x st → wpS (exh pk.T (clN pk.T pk.defs n) (.cons "InvalidLot" (some 2) (.cons (.ret (.exf 2 "at")) .nil) .nil) "InvalidLot" [("at", x)] [a, b, .no] st) P := fun P a b h => by
    refine w_exhR rfl rfl rfl ?_
    have : fieldB pk.T "InvalidLot" "at" = true := by rfl
    simp [this, List.lookup]
    exact ⟨_, _, ⟨rfl, rfl⟩, by rfl, x, by rfl, h⟩
  have h1 := fun s => bad_alternation (n := n) (st := s) hn2 hp h
  have h2 := fun s => bad_hits (n := n) (st := s) hn2 hp h
  have h3 := fun s => bad_parts (n := n) (st := s) hn2 hp h
  rcases (show k = 0 ∨ k = 1 ∨ k = 2 by omega) with rfl | rfl | rfl
  · simp [h1]
    exact hx _ _ _ ⟨rfl, rfl⟩
  · simp [h2]
    exact hx _ _ _ ⟨rfl, rfl⟩
  · simp [kw_parts, h3]
    exact hx _ _ _ ⟨rfl, rfl⟩
end
/-! what repr takes -/
theorem turns_len {o : Nat → Bool} {k : Nat} {row : List Nat} (T : Turns m o k row) : row.length ≤ 2 ^ m := by
  have : ∀ (l : List Nat), (∀ j x y, l[j]? = some x → l[j + 1]? = some y → x < y) → l.Pairwise (· < ·) := by
    intro l
    induction l with
    | nil => intro _; exact List.Pairwise.nil
    | cons a l ih =>
      intro h
      have ih := ih fun j x y hx hy => h (j + 1) x y (by simpa using hx) (by simpa using hy)
      refine List.pairwise_cons.mpr ⟨fun b hb => ?_, ih⟩
      cases l with
      | nil => cases hb
      | cons c l =>
        have h0 := h 0 a c rfl rfl
        rcases List.mem_cons.mp hb with rfl | hb
        · exact h0
        · exact Nat.lt_trans h0 ((List.pairwise_cons.mp ih).1 b hb)
  have := asc_len (N := 2 ^ m) row 0 (this row fun j x y hx hy => (T.und j x y hx hy).1) fun j hj => ⟨Nat.zero_le _, T.all j hj⟩
  simpa using this
theorem repr_grp {s : Sto} (hm : m ≤ 8) {r : List Nat} (h : ∀ j ∈ r, j < 2 ^ m) (hl : r.length ≤ 256) : biD s .repr [.tup (r.map (setT m))] = some (.str (reprD (.tup (r.map (setT m))))) :=
  (rp_grp hm h hl).ok (by decide) (by decide) s
theorem rp_small {i : Nat} (h : i < 1024) : Rp 0 12 (.int (i : Int)) := by
  have hl : (i : Int).natAbs.log2 ≤ 9 := by
    simp only [Int.natAbs_natCast]
    rcases Nat.eq_zero_or_pos i with rfl | hp
    · decide
    · exact Nat.le_of_lt_succ ((Nat.log2_lt (by omega)).mpr (by omega))
  refine ⟨?_, by simp [depD], ?_⟩
  · show decide ((i : Int).natAbs.log2 < 1920) = true
    exact decide_eq_true (by omega)
  · show (i : Int).natAbs.log2 + 3 ≤ 12
    omega
theorem repr_tupN {s : Sto} {ws : List Nat} (h : ∀ w ∈ ws, w < 1024) (hl : ws.length ≤ 100) : biD s .repr [tupN ws] = some (.str (reprD (tupN ws))) := by
  unfold tupN
  refine (rp_tup (k := 0) (W := 12) (L := 100) (fun x hx => ?_) (by rw [natD_len]; exact hl)).ok (by decide) (by decide) s
  rw [natD_map] at hx
  obtain ⟨w, hw, rfl⟩ := List.mem_map.mp hx
  exact rp_small (h w hw)
theorem repr_int {s : Sto} {k : Int} (h1 : -1 ≤ k) (h2 : k ≤ 300) : biD s .repr [.int k] = some (.str (reprD (.int k))) := by
  have : Rp 0 12 (.int k) := by
    rcases (show k < 0 ∨ 0 ≤ k by omega) with h | h
    · have : k = -1 := by omega
      subst this
      exact ⟨by decide, by decide, by decide⟩
    · have := rp_small (i := k.toNat) (by omega)
      rwa [Int.toNat_of_nonneg h] at this
  exact this.ok (by decide) (by decide) s
theorem ne_strs {s : Sto} {x y : Str} : cmpD s .ne (.str x) (.str y) = some (!decide (x = y)) := by
  show (some (eqv (.str x) (.str y))).map (!·) = _
  rw [eqv_str]; rfl
theorem eq_strs {s : Sto} {x y : Str} : cmpD s .eq (.str x) (.str y) = some (decide (x = y)) := by
  show some (eqv (.str x) (.str y)) = _
  rw [eqv_str]
theorem repr_nn {s : Sto} : biD s .repr [.lst [.non, .non]] = some (.str "[None, None]") := by kernel_rfl
theorem repr_n {s : Sto} : biD s .repr [.non] = some (.str (reprD .non)) := by rfl
theorem no_hits (hm : m ≤ 4) {out : List Nat} (h0 : 0 ∈ out) : firstH m out = none := by
  rw [firstH_eq]
  have : (allC m).find? (hitA m out) = none := by
    rw [List.find?_eq_none]
    intro ws _
    unfold hitA
    have : hitB m ws 0 = false := by
      unfold hitB
      rw [List.any_eq_false]
      intro w _
      simp
    simp only [Bool.not_eq_true, List.all_eq_false]
    exact ⟨0, h0, by rw [this]⟩
  rw [this]; rfl
end T46
end
section
set_option Elab.async false
set_option linter.all false
set_option maxRecDepth 100000
set_option maxHeartbeats 0
namespace T46
open PySem PySem.Spec PyProof.Rows L2 Nb
theorem run (w : World) : HandSHeadRun.RunEq R (PySem.W.view R.prog [44]) hk ob 4000 loose w := by
  intro os
  kernel_rfl
end T46
end
section
set_option Elab.async false
set_option linter.all false
set_option maxRecDepth 100000
set_option maxHeartbeats 4000000
namespace T46
open PySem PySem.Spec PyProof.Rows L2 Nb
/-- the plain law -/
def Plain : Prop := ∀ ns : List Int, ns.length ≤ 63 → ∃ st, clN pk.T pk.defs 20 "law" [.clst (ns.map .int)] [] = .ok (.bl true) st
end T46
open PySem PySem.W PySem.Calls PyProof.Rows
theorem T46.holds_of (plain : T46.Plain) : PySem.Challenge.rw_neverboth_k46_whole_alternations_wires_a.Holds := by
  w_on; o_law
  refine HandSHeadRun.head_any (r := OpenLaw.row PySem.Challenge.rw_neverboth_k46_whole_alternations_wires_a) (q := view (OpenLaw.row PySem.Challenge.rw_neverboth_k46_whole_alternations_wires_a).prog [44]) (H := T46.hk) (ob := T46.ob) (M := 4000) (loose := T46.loose) (d := HandSHeadRun.topDef (OpenLaw.row PySem.Challenge.rw_neverboth_k46_whole_alternations_wires_a).prog 44) (kwd := []) T46.ob_eq
    (by kernel_rfl) (fun s => by kernel_rfl) T46.run (by kernel_rfl) (by kernel_rfl) (by kernel_rfl) (by rfl) (by first | assumption | decide +kernel) (by decide +kernel) ⟨rfl, rfl, rfl, rfl, rfl, by decide +kernel⟩ ?hw ?hc
  case hw => w_witness2
  case hc =>
    refine Nb.walk_ofG (l := PySem.Challenge.rw_neverboth_k46_whole_alternations_wires_a) (n := 63) (k := 20) (x := "_law_script") rfl (by decide) (by kernel_rfl) ⟨rfl, by decide, by decide⟩ ?F
    intro w mg fa h Y G hmg0
    obtain ⟨K, KX, c1, c2⟩ := Y
    have hmg : mg ("law" : PySem.Str) = some (.ref fa) := by
      have e : (HandSHeadRun.topDef (OpenLaw.row PySem.Challenge.rw_neverboth_k46_whole_alternations_wires_a).prog 44).name = ("law" : PySem.Str) := by kernel_rfl
      rw [← e]
      exact hmg0
    have x := T46.pk.txt KX G c1 c2 T46.tx T46.kbs
    obtain ⟨fa', fd, hm, F, hb, _⟩ := x.fn "law" T46.f_law (by rfl)
    rw [hmg] at hm
    cases hm
    refine ⟨K, fd, Nb.spD K 1 (Nb.clN T46.pk.T T46.pk.defs 20 "law"), KX, fun s u => F.bindsA (ps := ["_law_script"]) (fun kV doc pm an cdv ct us hl => Nb.bind_gen (by decide +kernel) hl) s [u] rfl, fun H a ns hl _ hS => ?_, fun base hK hG => ?_⟩
    · obtain ⟨st, hp⟩ := plain ns hl
      refine ⟨H, [], [], [.clst (ns.map .int)], rfl, ⟨L2.Same.refl _, rfl, List.nodup_nil, fun _ h => absurd h (by simp), fun n o a h _ => absurd h (by simp)⟩, ?_, ?_⟩
      · refine Nb.Rels.one ?_
        unfold Nb.Rel
        exact ⟨a, _, rfl, hS, Nb.ints_rels⟩
      · rw [hp]
        intro F' R' H' v _ _ hv
        unfold Nb.Rel at hv
        exact hv
    · exact Nb.fnG_all x 20 "law" T46.f_law (by rfl) fa fd hmg F
end
section
set_option Elab.async false
set_option linter.all false
set_option maxRecDepth 100000
set_option maxHeartbeats 8000000
namespace T46
open PySem PySem.Spec PyProof.Rows L2 Nb M46
variable {n m : Nat} {st : Sto}
/-- what stands behind a turn -/
structure Told (m : Nat) (r row : List Nat) : Prop where
  h1 : 1 ≤ m
  h6 : m ≤ 6
  hr : Row m r
  lt : ∀ x ∈ row, x < 2 ^ m
  len : row.length ≤ 256
  alt : ∀ n st, 7 ≤ n → C n "alternation" [grpD m r] st = .ok (.tup (row.map (setT m))) st
def menu : Nat → List D
  | 0 => [.int 1, .int 2, .int 3]
  | 1 => [.int 3, .int 4]
  | _ => [.int 4, .int 4, .int 4, .int 5, .int 6]
theorem menu_ok {d : D} (h : d ∈ ([.int 1, .int 2, .int 3] : List D) ∨ d ∈ ([.int 3, .int 4] : List D) ∨ d ∈ ([.int 4, .int 4, .int 4, .int 5, .int 6] : List D)) : ∃ m : Nat, d = .int (m : Int) ∧ 1 ≤ m ∧ m ≤ 6 := by
  simp only [List.mem_cons, List.not_mem_nil, or_false] at h
  rcases h with (rfl | rfl | rfl) | (rfl | rfl) | (rfl | rfl | rfl | rfl | rfl)
  · exact ⟨1, rfl, by decide, by decide⟩
  · exact ⟨2, rfl, by decide, by decide⟩
  · exact ⟨3, rfl, by decide, by decide⟩
  · exact ⟨3, rfl, by decide, by decide⟩
  · exact ⟨4, rfl, by decide, by decide⟩
  · exact ⟨4, rfl, by decide, by decide⟩
  · exact ⟨4, rfl, by decide, by decide⟩
  · exact ⟨4, rfl, by decide, by decide⟩
  · exact ⟨5, rfl, by decide, by decide⟩
  · exact ⟨6, rfl, by decide, by decide⟩
/-- what holds ahead of turn i -/
def IL (sc : D) (i : Nat) (e : Enw) (s : Sto) : Prop := Dl s ∧ ∃ a2 a3 a4 a5 a6 a7 a8 a9 a10 a11 a12 a13, e = [.va sc, .va (.ref 1), a2, a3, a4, a5, a6, a7, a8, a9, a10, a11, a12, a13] ∧ (0 < i → ∃ m r row, Told m r row ∧ a4 = .va (grpD m r) ∧ a6 = .va (.tup (row.map (setT m))))
theorem c_law (hn : 20 ≤ n) {ns : List Int} : wpR (C n "law" [.clst (ns.map .int)] []) (fun d s => d = .bl true) (fun _ _ _ => False) := by
  obtain ⟨n, rfl, hm⟩ := succ_of hn
  rw [C, u_law, wpR_outR]
  generalize hsc : D.clst (ns.map .int) = sc
  unfold i_law
  -- the deal
  rw [w_scons]
  simp [-w_scons]
  subst hsc
  refine (c_start (show 1 ≤ n by omega)).to fun d s ⟨e, hd⟩ => ?_
  subst e
  generalize D.clst (ns.map .int) = sc
  -- three numbers of wires
  rw [w_scons, w_for]
  simp [-w_scons, big_eq]
  refine (c_from (v := .lst [.int 1, .int 2, .int 3]) (show 2 ≤ n by omega) (.lst (by simp)) (by simp) hd).to fun d0 s ⟨hd1, hk0⟩ => ?_
  refine (c_from (v := .lst [.int 3, .int 4]) (show 2 ≤ n by omega) (.lst (by simp)) (by simp) hd1).to fun d1 s ⟨hd2, hk1⟩ => ?_
  refine (c_from (v := .lst [.int 4, .int 4, .int 4, .int 5, .int 6]) (show 2 ≤ n by omega) (.lst (by simp)) (by simp) hd2).to fun d2 s ⟨hd3, hk2⟩ => ?_
  have hms : ∀ d ∈ [d0, d1, d2], ∃ m : Nat, d = .int (m : Int) ∧ 1 ≤ m ∧ m ≤ 6 := fun d hd => by
    simp only [List.mem_cons, List.not_mem_nil, or_false] at hd
    rcases hd with rfl | rfl | rfl
    · exact menu_ok (.inl hk0)
    · exact menu_ok (.inr (.inl hk1))
    · exact menu_ok (.inr (.inr hk2))
  have hfew : few [d0, d1, d2] = some [d0, d1, d2] := few_of (by simp [big_eq])
  simp [-w_scons, hfew]
  refine wp_fori (IL sc) ⟨hd3, _, _, _, _, _, _, _, _, _, _, _, _, rfl, fun h => absurd h (by omega)⟩ (fun i v e s hv hI => ?_) fun e s hI => ?_
  · -- a turn
    obtain ⟨hds, a2, a3, a4, a5, a6, a7, a8, a9, a10, a11, a12, a13, rfl, _⟩ := hI
    obtain ⟨m, rfl, h1, h6⟩ := hms v (List.mem_of_getElem? hv)
    have hm8 : m ≤ 8 := by omega
    have hp := two_le hm8
    refine ⟨_, rfl, ?_⟩
    rw [w_scons]
    simp [-w_scons]
    refine (c_some (show 3 ≤ n by omega) h1 h6 hds).to fun d s ⟨hd4, r, e, hr⟩ => ?_
    subst e
    have hrl := hr.len
    have hrl' : r.length ≤ 256 := Nat.le_trans hrl hp
    have htold := fun s => c_l_told (n := n) (st := s) (show 2 ≤ n by omega) h6 hr.lt (show r.length ≤ 1000 by omega)
    obtain ⟨row, hT, halt⟩ := c_alternation h1 h6 hr
    have hrow := turns_len hT
    have hrow' : row.length ≤ 256 := Nat.le_trans hrow hp
    have hal := fun s => halt n s (by omega)
    have ht7 := fun s => tab7 (s := s) h6
    rw [w_scons]
    simp [-w_scons, htold, ht7, big_eq]
    rw [w_scons]
    simp [-w_scons, hal]
    -- turns
    have hoi : ∀ x, x < 2 ^ m → decide (x ∈ r) = !(oB (outs m r) x) := fun x hx => by rw [oB_outs hx]; simp
    have hT2 : Turns m (oB (outs m r)) (longest (lawP (oB (outs m r))) m r) row := by
      have : longest (lvP (oB (outs m r)) m) m r = longest (lawP (oB (outs m r))) m r := by
        unfold longest
        congr 2
        refine List.map_congr_left fun x hx => ?_
        exact lvP_ok.eq lawP_ok x (outs_mem.mp hx).1
      rw [← this]; exact hT
    have htu := fun s => c_l_turns (n := n) (st := s) (show 3 ≤ n by omega) h1 h6 hr hoi hT2 (by omega)
    have hrep := fun s => repr_grp (s := s) hm8 hT.all hrow'
    have T : Told m r row := ⟨h1, h6, hr, hT.all, hrow', halt⟩
    have hrepG : ∀ s, biD s .repr [grpD m r] = some (.str (reprD (grpD m r))) := fun s => repr_grp hm8 hr.lt hrl'
    clear hT hT2
    obtain ⟨tD, htD⟩ : ∃ tD, tD = D.tup (row.map (setT m)) := ⟨_, rfl⟩
    rw [← htD] at hal hrep htu
    rw [← htD]
    rw [w_scons]
    simp [-w_scons, htu, kw_alt, hal, hrep, ne_strs]
    rw [w_scons]
    simp [-w_scons, rng_nat (show two m ≤ 1000000 by omega)]
    refine wp_lcNf (fun x => !decide (x ∈ r)) (fun x hx => ?_) ?_
    · have hni : ∀ s, cmpD s .nin (.int (x : Int)) (rowD r) = some (!decide (x ∈ r)) := fun s => congrArg (Option.map (!·)) (in_row (s := s))
      simp [hni]
      by_cases h : x ∈ r <;> simp [h]
    have hout : D.lst (natD ((List.range (two m)).filter fun x => !decide (x ∈ r))) = rowD (outs m r) := rfl
    rw [hout]
    rw [w_scons]
    by_cases hm5 : m < 5
    · have hm5' : (m : Int) < 5 := by omega
      have h4 : m ≤ 4 := by omega
      have hh := fun s => c_hit_wires (n := n) (st := s) (show 7 ≤ n by omega) h1 h4 hr
      obtain ⟨hp0, hp1⟩ := c_meeting_parts h1 h4 hr
      have in0 : ∀ s, cmpD s .inn (.int 0) (rowD (outs m r)) = some (decide (0 ∈ outs m r)) := fun s => in_row (s := s) (i := 0)
      have ni0 : ∀ s, cmpD s .nin (.int 0) (rowD (outs m r)) = some (!decide (0 ∈ outs m r)) := fun s => congrArg (Option.map (!·)) (in_row (s := s) (i := 0))
      by_cases h0 : 0 ∈ outs m r
      · have hpn := fun s => hp0 h0 n s (by omega)
        have hno : firstH m (outs m r) = none := no_hits h4 h0
        rw [hno] at hh
        simp at hh
        simp [-w_scons, hm5']
        rw [w_scons]
        simp [-w_scons, hh, hpn]
        rw [w_scons]
        simp [-w_scons, in0, h0, repr_nn, ne_strs, big_eq]
        rw [w_scons]
        simp [-w_scons, ni0, h0]
        rw [w_scons]
        simp [-w_scons, ni0, h0]
        rw [w_scons]
        simp [kw_hits, hh, repr_n, ne_strs, hrepG, htold]
        exact ⟨hd4, _, _, _, _, _, _, _, _, _, _, _, _, rfl, fun _ => ⟨m, r, row, T, rfl, by rw [htD]⟩⟩
      · obtain ⟨k, ps, P, hps⟩ := hp1 h0
        have hpn := fun s => hps n s (by omega)
        obtain ⟨hol, hl⟩ := outs_lt h1 h4 h0
        have hpar := fun s => c_l_parting (n := n) (st := s) (show 3 ≤ n by omega) h1 h4 (by omega) hl outs_asc P
        obtain ⟨z, hz1, hz2, _, _⟩ := hits_spec h1 h4 hl
        have hlh := fun s => c_l_hits (n := n) (st := s) (show 1 ≤ n by omega) h1 h4 hl (by omega)
        rw [hz1] at hh hlh
        have hzw : (∀ w ∈ z, w < 1024) ∧ z.length ≤ 100 := by
          unfold allC at hz2
          obtain ⟨j, hj, hz3⟩ := List.mem_flatMap.mp hz2
          have hj := List.mem_range.mp hj
          refine ⟨fun w hw => ?_, ?_⟩
          · have := chs_lt m j z hz3 w hw; omega
          · have := chs_len m j z hz3; omega
        have hrz := fun s => repr_tupN (s := s) hzw.1 hzw.2
        obtain ⟨zD, hzD⟩ : ∃ zD, zD = tupN z := ⟨_, rfl⟩
        rw [← hzD] at hrz hh hlh
        simp at hh hlh
        obtain ⟨pD, hpD⟩ : ∃ pD, pD = D.tup (ps.map fun p => grpD m (srtN p)) := ⟨_, rfl⟩
        rw [← hpD] at hpn hpar
        simp [-w_scons, hm5']
        rw [w_scons]
        simp [-w_scons, hh, hpn]
        rw [w_scons]
        simp [-w_scons, in0, h0]
        rw [w_scons]
        simp [-w_scons, ni0, h0, hpar]
        rw [w_scons]
        simp [-w_scons, ni0, h0, hrz, hlh, ne_strs]
        rw [w_scons]
        simp [kw_hits, hh, hrz, ne_strs, hrepG, htold]
        exact ⟨hd4, _, _, _, _, _, _, _, _, _, _, _, _, rfl, fun _ => ⟨m, r, row, T, rfl, by rw [htD]⟩⟩
    · have hm5' : ¬ (m : Int) < 5 := by omega
      simp [hm5']
      exact ⟨hd4, _, _, _, _, _, _, _, _, _, _, _, _, rfl, fun _ => ⟨m, r, row, T, rfl, by rw [htD]⟩⟩
  · -- errors
    obtain ⟨hds, a2, a3, a4, a5, a6, a7, a8, a9, a10, a11, a12, a13, rfl, hT⟩ := hI
    obtain ⟨m, r, row, T, rfl, rfl⟩ := hT (by simp)
    have hm8 : m ≤ 8 := by have := T.h6; omega
    dsimp only
    rw [w_scons, w_for]
    have hr3 : (rngD [.int 3]).bind few = some (natD (List.range 3)) := rng_nat (n := 3) (by decide)
    simp [-w_scons, hr3]
    have hr3' : (natD (List.range 3)) = natD [0, 1, 2] := rfl
    refine wp_forR (n := 3) (fun i e s => Dl s ∧ ∃ a2 a3 a5 a7 a8 a9 a10 a11 a12 a13, e = [.va sc, .va (.ref 1), a2, a3, .va (grpD m r), a5, .va (.tup (row.map (setT m))), a7, a8, a9, a10, a11, a12, a13]) ⟨hds, _, _, _, _, _, _, _, _, _, _, rfl⟩ (fun i e s hi hI => ?_) fun e s hI => ?_
    · obtain ⟨hd4, a2, a3, a5, a7, a8, a9, a10, a11, a12, a13, rfl⟩ := hI
      refine ⟨_, rfl, ?_⟩
      rw [w_scons]
      simp [-w_scons]
      refine (c_no_settings (show 3 ≤ n by omega) T.h1 T.h6 T.hr hd4).to fun d s ⟨hd5, v, k, e, hp, hl, hk1, hk2⟩ => ?_
      subst e
      simp [-w_scons]
      have hh := fun s => c_heard (n := n) (st := s) (show 8 ≤ n by omega) hi hp hl
      have hri := fun s => repr_int (s := s) hk1 hk2
      rw [w_scons]
      simp [hh, hri, ne_strs]
      exact hd5
    · obtain ⟨hd4, a2, a3, a5, a7, a8, a9, a10, a11, a12, a13, rfl⟩ := hI
      have hal := fun s => T.alt n s (by omega)
      have hrep := fun s => repr_grp (s := s) hm8 T.lt T.len
      simp [hal, hrep, eq_strs]
theorem plain : Plain := fun ns hl => by
  obtain ⟨d, s, e, h⟩ := (c_law (n := 20) (by omega) (ns := ns)).ex
  subst h
  exact ⟨s, e⟩
end T46
end
theorem PySem.Challenge.cw_neverboth_k46_whole_alternations_wires_a_holds : PySem.Challenge.rw_neverboth_k46_whole_alternations_wires_a.Holds := by
  exact T46.holds_of T46.plain
